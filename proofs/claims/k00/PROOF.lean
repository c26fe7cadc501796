import PyProof.Rows.All
import Wide.All
import OpenK.AllK
import Wide.FinOn
import HandS.ForMost
import HandS.ForExc
import HandS.Conv
import HandS.Walk
import HandS.Zip
import HandS.Property
import HandS.Defaults
import HandS.FStr
import HandS.ListItems
import HandS.Style
import HandS.Wide
import HandS.SortInts
import HandS.SortRule
import HandS.Lambda
import HandS.TupAny
import HandS.Deep
import HandS.Text
import HandS.Strs
import HandS.Exc
import HandS.ExcOwn
import HandS.CallSlots
import HandS.HeadWalk
import OpenK.KOps
import OpenK.KMeth
import HandS.ExcInit
import HandS.ExcSuper
import KE.KExcSuper
import HandS.ExcIs
import HandS.ExcField
import HandS.IsInst
import HandS.HeadEnd
import HandS.More
import HandS.SetFor
import HandS.DictComp
import HandS.Star
import HandS.TryOnly
import KE.GoesNew
import KE.GoesMore
import KE.GoesZip
import PyProof.ReprRoads
import PyProof.ListNew
import KE.KDictZip
import KE.KTurns
import HandS.Ends
import HandS.HeadHook1
import HandS.HeadHook2
import HandS.Head0
import HandS.Head1
import HandS.Head2
import HandS.WordsExc
import HandS.DeepEq
import HandS.TupMul
import HandS.Codes
import PySem.Challenge.RW_bidehours_k00_errors_keep_their_values
import PyProof.ReprLen
section
set_option Elab.async false
set_option linter.all false
set_option autoImplicit false
set_option maxRecDepth 100000
set_option maxHeartbeats 1000000
/-! Bi0: values as trees, cells, the heap with its low mark, results; what they say of the layer's values and heap. -/
namespace Bi
open PySem L2

/-- a value: a tuple is a tree, a list, dict or instance is a cell's number -/
inductive PV where
  | non | bl (b : Bool) | int (i : Int) | str (x : Str) | ty (n : String) | glob (x : Str)
  | tup (xs : List PV) | lsq (xs : List PV) | ref (n : Nat)
  | exc (C : Str) (v : PV)
mutual
def PV.bd (n : Nat) : PV → Bool
  | .tup xs => PV.bds n xs
  | .lsq xs => PV.bds n xs
  | .ref i => decide (i < n)
  | .non => true
  | .bl _ => true
  | .int _ => true
  | .str _ => true
  | .ty _ => true
  | .glob _ => true
  | .exc _ v => PV.bd n v
def PV.bds (n : Nat) : List PV → Bool
  | [] => true
  | x :: r => PV.bd n x && PV.bds n r
end
theorem bds_all (n : Nat) : ∀ xs : List PV, PV.bds n xs = xs.all (PV.bd n)
  | [] => by rw [PV.bds]; rfl
  | x :: r => by rw [PV.bds, bds_all n r]; rfl
theorem bd_lsq (n : Nat) (xs : List PV) : (PV.lsq xs).bd n = xs.all (PV.bd n) := by rw [PV.bd, bds_all]
theorem bd_tup (n : Nat) (xs : List PV) : (PV.tup xs).bd n = xs.all (PV.bd n) := by rw [PV.bd, bds_all]
/-- a cell; lk: it is read only (the script; a dict while it is walked) -/
inductive PO where
  | lst (xs : List PV)
  | dic (kvs : List (Key × PV)) (lk : Bool)
  | ins (C : Str) (fs : List (Str × PV))
def PO.bd (n : Nat) : PO → Bool
  | .lst xs => xs.all (PV.bd n)
  | .dic kvs _ => kvs.all fun kv => kv.2.bd n
  | .ins _ fs => fs.all fun kv => kv.2.bd n
mutual
theorem bd_mono {n m : Nat} (h : n ≤ m) : ∀ v : PV, v.bd n = true → v.bd m = true
  | .tup xs, e => by
    rw [PV.bd] at e ⊢
    exact bds_mono h xs e
  | .lsq xs, e => by
    rw [PV.bd] at e ⊢
    exact bds_mono h xs e
  | .ref i, e => by
    rw [PV.bd] at e ⊢
    have := of_decide_eq_true e
    exact decide_eq_true (by omega)
  | .non, _ => by rw [PV.bd]
  | .bl _, _ => by rw [PV.bd]
  | .int _, _ => by rw [PV.bd]
  | .str _, _ => by rw [PV.bd]
  | .ty _, _ => by rw [PV.bd]
  | .glob _, _ => by rw [PV.bd]
  | .exc _ v, e => by
    rw [PV.bd] at e ⊢
    exact bd_mono h v e
theorem bds_mono {n m : Nat} (h : n ≤ m) : ∀ xs : List PV, PV.bds n xs = true → PV.bds m xs = true
  | [], _ => by rw [PV.bds]
  | x :: r, e => by
    rw [PV.bds, Bool.and_eq_true] at e ⊢
    exact ⟨bd_mono h x e.1, bds_mono h r e.2⟩
end
theorem alls_mono {n m : Nat} (h : n ≤ m) {xs : List PV} (e : xs.all (PV.bd n) = true) : xs.all (PV.bd m) = true :=
  List.all_eq_true.mpr fun x hx => bd_mono h x (List.all_eq_true.mp e x hx)
theorem PO.bd_mono {n m : Nat} (h : n ≤ m) {o : PO} (e : o.bd n = true) : o.bd m = true := by
  cases o with
  | lst xs => exact alls_mono h e
  | dic kvs _ => exact List.all_eq_true.mpr fun x hx => Bi.bd_mono h _ (List.all_eq_true.mp e x hx)
  | ins _ fs => exact List.all_eq_true.mpr fun x hx => Bi.bd_mono h _ (List.all_eq_true.mp e x hx)

/-- the heap; low: no cell below it was given a reference since the mark was set -/
structure Sg where
  g : List PO
  low : Nat
inductive R (α : Type) where
  | ok (v : α) (s : Sg)
  | err (C : Str) (v : PV) (s : Sg)
  | bad
def R.bind {α β : Type} : R α → (α → Sg → R β) → R β
  | .ok v s, f => f v s
  | .err C v s, _ => .err C v s
  | .bad, _ => .bad
abbrev Sl := List (Option PV)
abbrev Phi := Str → List PV → Sg → R PV
abbrev ME := Phi → Sl → Sg → R PV
abbrev ML := Phi → Sl → Sg → R (List PV)
@[simp] theorem bind_ok {α β : Type} (v : α) (s : Sg) (f : α → Sg → R β) : (R.ok v s).bind f = f v s := (rfl)
@[simp] theorem bind_err {α β : Type} (C : Str) (v : PV) (s : Sg) (f : α → Sg → R β) : (R.err C v s).bind f = .err C v s := (rfl)
@[simp] theorem bind_bad {α β : Type} (f : α → Sg → R β) : (R.bad).bind f = .bad := (rfl)

def Sg.push (s : Sg) (o : PO) : Sg := ⟨s.g ++ [o], s.low⟩
def Sg.wr (s : Sg) (i : Nat) (o : PO) : Sg := ⟨s.g.set i o, if o.bd 0 then s.low else min s.low i⟩

/-- what a run may do to the cells that stood -/
structure Gd (s s' : Sg) : Prop where
  len : s.g.length ≤ s'.g.length
  low : s'.low ≤ s.low
  old : ∀ j, j < s.g.length → j < s'.low → ∀ o', s'.g[j]? = some o' → ∃ o, s.g[j]? = some o ∧ ∀ n, o.bd n = true → o'.bd n = true
theorem Gd.refl (s : Sg) : Gd s s := ⟨Nat.le_refl _, Nat.le_refl _, fun _ _ _ o' e => ⟨o', e, fun _ h => h⟩⟩
theorem Gd.trans {a b c : Sg} (h : Gd a b) (k : Gd b c) : Gd a c where
  len := Nat.le_trans h.len k.len
  low := Nat.le_trans k.low h.low
  old := fun j h1 h2 o' e => by
    obtain ⟨o, e1, f1⟩ := k.old j (Nat.lt_of_lt_of_le h1 h.len) h2 o' e
    obtain ⟨o2, e2, f2⟩ := h.old j h1 (Nat.lt_of_lt_of_le h2 k.low) o e1
    exact ⟨o2, e2, fun n q => f1 n (f2 n q)⟩
theorem Gd.push (s : Sg) (o : PO) : Gd s (s.push o) where
  len := by show _ ≤ (s.g ++ [o]).length; simp
  low := Nat.le_refl _
  old := fun j h1 _ o' e => by
    have e' : (s.g ++ [o])[j]? = some o' := e
    rw [List.getElem?_append_left h1] at e'
    exact ⟨o', e', fun _ h => h⟩
theorem Gd.wr (s : Sg) (i : Nat) (o : PO) : Gd s (s.wr i o) where
  len := by show _ ≤ (s.g.set i o).length; simp
  low := by
    show (if o.bd 0 then s.low else min s.low i) ≤ s.low
    split <;> omega
  old := fun j h1 h2 o' e => by
    have e' : (s.g.set i o)[j]? = some o' := e
    have h3 : j < (if o.bd 0 then s.low else min s.low i) := h2
    by_cases hji : j = i
    · subst hji
      rw [List.getElem?_set_self h1] at e'
      have eo : o = o' := Option.some.inj e'
      subst eo
      by_cases hb : o.bd 0 = true
      · exact ⟨s.g[j], by simp [h1], fun n _ => PO.bd_mono (Nat.zero_le _) hb⟩
      · rw [if_neg hb] at h3
        omega
    · rw [List.getElem?_set_ne (Ne.symm hji)] at e'
      exact ⟨o', e', fun _ h => h⟩

/-! ### what they say of the layer's values -/
/-- a list that is only read: the script -/
def SqF (K : PySem.W.Frag) (H : Hp) (a : Addr) (xs : List V) : Prop :=
  (∃ o, H a = some (.frz o (.lst xs))) ∨
    ∃ (o : Obj) (its : Array Value) (n : Nat), K.lookup a = some o ∧ o.cls = .type "list" ∧ o.dict = none ∧ o.data = .seq its n ∧ its.size ≤ sizeLine ∧ Vals xs its.toList
theorem SqF.sq {K : PySem.W.Frag} {H : Hp} {a : Addr} {xs : List V} (h : SqF K H a xs) : SqL K H a xs := by
  rcases h with ⟨o, h⟩ | h
  · exact .inl (.inr ⟨o, h⟩)
  · exact .inr h
/-- at a: an exception of the class at C, its dict at d -/
def exv (a C d : Addr) : HO := .ext fun h => ∃ (oe : Obj) (vs : Array Value), h.get? a = some oe ∧ oe.cls = .ref C ∧ oe.dict = some d ∧ oe.data = .fields vs
section
variable (K : PySem.W.Frag) (mg : Str → Option Value)
inductive RV (H : Hp) (ρ : Nat → Addr) : PV → V → Prop
  | non : RV H ρ .non .non
  | bl (b : Bool) : RV H ρ (.bl b) (.bl b)
  | int (i : Int) : RV H ρ (.int i) (.int i)
  | str (x : Str) : RV H ρ (.str x) (.str x)
  | ty (n : String) : RV H ρ (.ty n) (.ty n)
  | glob (x : Str) (a : Addr) : mg x = some (.ref a) → RV H ρ (.glob x) (.ref a)
  | ref (n : Nat) : RV H ρ (.ref n) (.ref (ρ n))
  | tup (xs : List PV) (a : Addr) (vs : List V) : SqT K H a vs → xs.length = vs.length → (∀ (i : Nat) (x : PV) (v : V), xs[i]? = some x → vs[i]? = some v → RV H ρ x v) → RV H ρ (.tup xs) (.ref a)
  | lsq (xs : List PV) (a : Addr) (vs : List V) : SqF K H a vs → xs.length = vs.length → (∀ (i : Nat) (x : PV) (v : V), xs[i]? = some x → vs[i]? = some v → RV H ρ x v) → RV H ρ (.lsq xs) (.ref a)
  | exc (C : Str) (x : PV) (a d Ca : Addr) (u : V) : mg C = some (.ref Ca) → H a = some (exv a Ca d) → H d = some (.xd [(("value" : Str), u)]) → RV H ρ x u → RV H ρ (.exc C x) (.ref a)
abbrev RVs (H : Hp) (ρ : Nat → Addr) : List PV → List V → Prop := Paired (RV K mg H ρ)
/-- pairs with keys -/
abbrev RKs {κ : Type} (H : Hp) (ρ : Nat → Addr) : List (κ × PV) → List (κ × V) → Prop := Paired fun p q => p.1 = q.1 ∧ RV K mg H ρ p.2 q.2
def CellRel (H : Hp) (ρ : Nat → Addr) : PO → Addr → Prop
  | .lst xs, a => ∃ vs, H a = some (.lst vs) ∧ RVs K mg H ρ xs vs
  | .dic kvs false, a => ∃ ws, H a = some (.dK ws) ∧ RKs K mg H ρ kvs ws
  | .dic kvs true, a => ∃ o ws, H a = some (.frz o (.dK ws)) ∧ RKs K mg H ρ kvs ws
  | .ins C fs, a => ∃ Ca dx ws, mg C = some (.ref Ca) ∧ H a = some (.ins Ca dx ws) ∧ RKs K mg H ρ fs ws
end
/-- what may be written over -/
def Soft (u : HO) : Prop := (∀ ob vs, u ≠ .frz ob (.tup vs) ∧ u ≠ .frz ob (.lst vs)) ∧ (∀ φ, u ≠ .ext φ) ∧ (∀ l, u ≠ .xd l) ∧ ∀ ps, u ≠ .tbl ps
/-- what stands in H and K as a tuple, or as a locked list, an exception, a table of code objects, goes on to -/
structure Keep (K : PySem.W.Frag) (H H' : Hp) : Prop where
  tup : ∀ a vs, SqT K H a vs → SqT K H' a vs
  frz : ∀ a vs, SqF K H a vs → SqF K H' a vs
  ext : ∀ a φ, H a = some (.ext φ) → H' a = some (.ext φ)
  xd : ∀ a l, H a = some (.xd l) → H' a = some (.xd l)
  tab : ∀ a q, LamX.TabS H a q → LamX.TabS H' a q
theorem Keep.refl {K : PySem.W.Frag} {H : Hp} : Keep K H H := ⟨fun _ _ h => h, fun _ _ h => h, fun _ _ h => h, fun _ _ h => h, fun _ _ h => h⟩
theorem Keep.trans {K : PySem.W.Frag} {H H1 H2 : Hp} (a : Keep K H H1) (b : Keep K H1 H2) : Keep K H H2 :=
  ⟨fun x vs h => b.tup x vs (a.tup x vs h), fun x vs h => b.frz x vs (a.frz x vs h), fun x vs h => b.ext x vs (a.ext x vs h), fun x vs h => b.xd x vs (a.xd x vs h), fun x vs h => b.tab x vs (a.tab x vs h)⟩
theorem Keep.updH {K : PySem.W.Frag} {H : Hp} {p : Addr} {o : HO} (h : ∀ u, H p = some u → (∀ vs, u ≠ .tup vs) ∧ Soft u) : Keep K H (upd H p o) := by
  have ne : ∀ {a : Addr} {u : HO}, H a = some u → ¬ ((∀ vs, u ≠ .tup vs) ∧ Soft u) → a ≠ p := fun {a u} q n e => n (h u (by rw [← e]; exact q))
  have ex : ∀ a φ, H a = some (.ext φ) → upd H p o a = some (.ext φ) := fun a φ q => by
    rw [upd_ne (ne q fun z => z.2.2.1 φ rfl)]
    exact q
  refine ⟨fun a vs q => ?_, fun a vs q => ?_, ex, fun a l q => ?_, fun a q t => ?_⟩
  · rcases q with (q | ⟨ob, q⟩) | q
    · by_cases e : a = p
      · subst e; exact absurd rfl ((h _ q).1 vs)
      · exact .inl (.inl (by rw [upd_ne e]; exact q))
    · by_cases e : a = p
      · subst e; exact absurd rfl ((h _ q).2.1 ob vs).1
      · exact .inl (.inr ⟨ob, by rw [upd_ne e]; exact q⟩)
    · exact .inr q
  · rcases q with ⟨ob, q⟩ | q
    · by_cases e : a = p
      · subst e; exact absurd rfl ((h _ q).2.1 ob vs).2
      · exact .inl ⟨ob, by rw [upd_ne e]; exact q⟩
    · exact .inr q
  · rw [upd_ne (ne q fun z => z.2.2.2.1 l rfl)]
    exact q
  · obtain ⟨ps, h1, h2, h3⟩ := t
    refine ⟨ps, by rw [upd_ne (ne h1 fun z => z.2.2.2.2 ps rfl)]; exact h1, h2, fun pos cv hc => ?_⟩
    obtain ⟨c, e1, e2⟩ := h3 pos cv hc
    exact ⟨c, e1, ex _ _ e2⟩
theorem Keep.new {K : PySem.W.Frag} {H : Hp} {p : Addr} {o : HO} (h : H p = none) : Keep K H (upd H p o) := Keep.updH fun u e => by rw [h] at e; cases e
section
variable {K : PySem.W.Frag} {mg : Str → Option Value} {H H' : Hp} {ρ ρ' : Nat → Addr}
theorem paired_get {α β : Type} {F : α → β → Prop} : ∀ {xs : List α} {ys : List β} {i : Nat} {x : α} {y : β}, Paired F xs ys → xs[i]? = some x → ys[i]? = some y → F x y
  | _, _, 0, _, _, .cons h _, e1, e2 => by
    cases e1; cases e2; exact h
  | _, _, i + 1, _, _, .cons _ t, e1, e2 => paired_get (i := i) t e1 e2
theorem paired_of {α β : Type} {F : α → β → Prop} : ∀ {xs : List α} {ys : List β}, xs.length = ys.length → (∀ (i : Nat) (x : α) (y : β), xs[i]? = some x → ys[i]? = some y → F x y) → Paired F xs ys
  | [], [], _, _ => .nil
  | [], _ :: _, h, _ => by cases h
  | _ :: _, [], h, _ => by cases h
  | x :: xs, y :: ys, h, f => .cons (f 0 x y rfl rfl) (paired_of (Nat.succ.inj h) fun i x y e1 e2 => f (i + 1) x y e1 e2)
theorem paired_monoM {α β : Type} {F G : α → β → Prop} : ∀ {xs : List α} {ys : List β}, Paired F xs ys → (∀ x ∈ xs, ∀ y, F x y → G x y) → Paired G xs ys
  | _, _, .nil, _ => .nil
  | _, _, .cons h t, f => .cons (f _ (List.mem_cons_self ..) _ h) (paired_monoM t fun x hx => f x (List.mem_cons_of_mem _ hx))
theorem paired_some {α β : Type} {F : α → β → Prop} {xs : List α} {ys : List β} {i : Nat} {x : α} (h : Paired F xs ys) (e : xs[i]? = some x) : ∃ y, ys[i]? = some y ∧ F x y := by
  have l := h.length
  have hi : i < xs.length := (List.getElem?_eq_some_iff.mp e).1
  have hj : i < ys.length := by omega
  exact ⟨ys[i], by simp [hj], paired_get h e (by simp [hj])⟩
theorem paired_some' {α β : Type} {F : α → β → Prop} {xs : List α} {ys : List β} {i : Nat} {y : β} (h : Paired F xs ys) (e : ys[i]? = some y) : ∃ x, xs[i]? = some x ∧ F x y := by
  have l := h.length
  have hi : i < ys.length := (List.getElem?_eq_some_iff.mp e).1
  have hj : i < xs.length := by omega
  exact ⟨xs[i], by simp [hj], paired_get h (by simp [hj]) e⟩
theorem paired_append {α β : Type} {F : α → β → Prop} : ∀ {xs zs : List α} {ys ws : List β}, Paired F xs ys → Paired F zs ws → Paired F (xs ++ zs) (ys ++ ws)
  | _, _, _, _, .nil, k => k
  | _, _, _, _, .cons h t, k => .cons h (paired_append t k)
theorem paired_take {α β : Type} {F : α → β → Prop} : ∀ {xs : List α} {ys : List β} (n : Nat), Paired F xs ys → Paired F (xs.take n) (ys.take n)
  | _, _, 0, _ => by simp only [List.take_zero]; exact .nil
  | _, _, _ + 1, .nil => .nil
  | _, _, n + 1, .cons h t => .cons h (paired_take n t)
theorem paired_drop {α β : Type} {F : α → β → Prop} : ∀ {xs : List α} {ys : List β} (n : Nat), Paired F xs ys → Paired F (xs.drop n) (ys.drop n)
  | _, _, 0, h => h
  | _, _, _ + 1, .nil => .nil
  | _, _, n + 1, .cons _ t => paired_drop n t
theorem paired_set {α β : Type} {F : α → β → Prop} {x : α} {y : β} (r : F x y) : ∀ {xs : List α} {ys : List β} (n : Nat), Paired F xs ys → Paired F (xs.set n x) (ys.set n y)
  | _, _, _, .nil => .nil
  | _, _, 0, .cons _ t => .cons r t
  | _, _, n + 1, .cons h t => .cons h (paired_set r n t)
theorem paired_erase {α β : Type} {F : α → β → Prop} : ∀ {xs : List α} {ys : List β} (n : Nat), Paired F xs ys → Paired F (xs.eraseIdx n) (ys.eraseIdx n)
  | _, _, _, .nil => .nil
  | _, _, 0, .cons _ t => t
  | _, _, n + 1, .cons h t => .cons h (paired_erase n t)
theorem RV.tup_iff {xs : List PV} {u : V} : RV K mg H ρ (.tup xs) u ↔ ∃ a vs, u = .ref a ∧ SqT K H a vs ∧ RVs K mg H ρ xs vs := by
  constructor
  · intro h
    cases h with
    | tup _ a vs q l f => exact ⟨a, vs, rfl, q, paired_of l f⟩
  · rintro ⟨a, vs, rfl, q, r⟩
    exact .tup xs a vs q r.length fun i x v e1 e2 => paired_get r e1 e2
theorem RV.lsq_iff {xs : List PV} {u : V} : RV K mg H ρ (.lsq xs) u ↔ ∃ a vs, u = .ref a ∧ SqF K H a vs ∧ RVs K mg H ρ xs vs := by
  constructor
  · intro h
    cases h with
    | lsq _ a vs q l f => exact ⟨a, vs, rfl, q, paired_of l f⟩
  · rintro ⟨a, vs, rfl, q, r⟩
    exact .lsq xs a vs q r.length fun i x v e1 e2 => paired_get r e1 e2
/-- a value stands on -/
theorem RV.mono {n : Nat} {pv : PV} {v : V} (k : Keep K H H') (hρ : ∀ i, i < n → ρ' i = ρ i) (h : RV K mg H ρ pv v) : pv.bd n = true → RV K mg H' ρ' pv v := by
  induction h with
  | non => intro _; exact .non
  | bl b => intro _; exact .bl b
  | int i => intro _; exact .int i
  | str x => intro _; exact .str x
  | ty n => intro _; exact .ty n
  | glob x a e => intro _; exact .glob x a e
  | ref m =>
    intro b
    rw [PV.bd] at b
    have := hρ m (of_decide_eq_true b)
    rw [← this]
    exact .ref m
  | tup xs a vs q l f ih =>
    intro b
    rw [bd_tup] at b
    exact .tup xs a vs (k.tup _ _ q) l fun i x v e1 e2 => ih i x v e1 e2 (List.all_eq_true.mp b x (List.mem_of_getElem? e1))
  | lsq xs a vs q l f ih =>
    intro b
    rw [bd_lsq] at b
    exact .lsq xs a vs (k.frz _ _ q) l fun i x v e1 e2 => ih i x v e1 e2 (List.all_eq_true.mp b x (List.mem_of_getElem? e1))
  | exc C x a d Ca u e1 e2 e3 r ih =>
    intro b
    rw [PV.bd] at b
    exact .exc C x a d Ca u e1 (k.ext _ _ e2) (k.xd _ _ e3) (ih b)
theorem RVs.mono {n : Nat} {xs : List PV} {vs : List V} (k : Keep K H H') (hρ : ∀ i, i < n → ρ' i = ρ i) (h : RVs K mg H ρ xs vs) (b : xs.all (PV.bd n) = true) : RVs K mg H' ρ' xs vs :=
  paired_monoM h fun x hx y r => RV.mono k hρ r (List.all_eq_true.mp b x hx)
theorem RKs.mono {κ : Type} {n : Nat} {xs : List (κ × PV)} {vs : List (κ × V)} (k : Keep K H H') (hρ : ∀ i, i < n → ρ' i = ρ i) (h : RKs K mg H ρ xs vs) (b : (xs.all fun kv => kv.2.bd n) = true) : RKs K mg H' ρ' xs vs :=
  paired_monoM h fun x hx y r => ⟨r.1, RV.mono k hρ r.2 (List.all_eq_true.mp b x hx)⟩
/-- a cell stands on, if what it says of its own address does -/
theorem CellRel.mono {n : Nat} {o : PO} {a : Addr} (k : Keep K H H') (hρ : ∀ i, i < n → ρ' i = ρ i) (b : o.bd n = true) (h : CellRel K mg H ρ o a) (same' : ∀ u, H a = some u → H' a = some u) : CellRel K mg H' ρ' o a := by
  cases o with
  | lst xs => obtain ⟨vs, e, r⟩ := h; exact ⟨vs, same' _ e, RVs.mono k hρ r b⟩
  | dic kvs lk =>
    cases lk with
    | false => obtain ⟨vs, e, r⟩ := h; exact ⟨vs, same' _ e, RKs.mono k hρ r b⟩
    | true => obtain ⟨ob, vs, e, r⟩ := h; exact ⟨ob, vs, same' _ e, RKs.mono k hρ r b⟩
  | ins C fs => obtain ⟨Ca, dx, ws, e1, e2, r⟩ := h; exact ⟨Ca, dx, ws, e1, same' _ e2, RKs.mono k hρ r b⟩
end

/-- the heaps agree -/
structure Rel (K : PySem.W.Frag) (mg : Str → Option Value) (ρ : Nat → Addr) (s : Sg) (H : Hp) : Prop where
  cell : ∀ (i : Nat) (o : PO), s.g[i]? = some o → CellRel K mg H ρ o (ρ i)
  inj : ∀ i j, i < s.g.length → j < s.g.length → ρ i = ρ j → i = j
  wf : ∀ (i : Nat) (o : PO), s.g[i]? = some o → o.bd s.g.length = true
/-- the slots agree -/
structure SRel (K : PySem.W.Frag) (mg : Str → Option Value) (ρ : Nat → Addr) (s : Sg) (H : Hp) (p : Sl) (σ : St) : Prop where
  len : p.length = σ.length
  at_ : ∀ (i : Nat) (pv : PV), p[i]? = some (some pv) → pv.bd s.g.length = true ∧ ∃ v, σ[i]? = some (some v) ∧ RV K mg H ρ pv v
/-- one step on -/
structure Nx (K : PySem.W.Frag) (mg : Str → Option Value) (ρ : Nat → Addr) (s : Sg) (H : Hp) (ρ' : Nat → Addr) (s' : Sg) (H' : Hp) : Prop where
  rel : Rel K mg ρ' s' H'
  keep : Keep K H H'
  agr : ∀ i, i < s.g.length → ρ' i = ρ i
  len : s.g.length ≤ s'.g.length
  /-- a locked dict stays locked, and as it is -/
  fz : ∀ (n : Nat) (kvs : List (Key × PV)), s.g[n]? = some (.dic kvs true) → s'.g[n]? = some (.dic kvs true) ∧ ∀ o ws, H (ρ n) = some (.frz o (.dK ws)) → H' (ρ n) = some (.frz o (.dK ws))
section
variable {K : PySem.W.Frag} {mg : Str → Option Value} {H H' H1 H2 : Hp} {ρ ρ' ρ1 ρ2 : Nat → Addr} {s s' s1 s2 : Sg} {p : Sl} {σ : St}
theorem Nx.refl (h : Rel K mg ρ s H) : Nx K mg ρ s H ρ s H := ⟨h, Keep.refl, fun _ _ => rfl, Nat.le_refl _, fun _ _ e => ⟨e, fun _ _ q => q⟩⟩
theorem Nx.trans (a : Nx K mg ρ s H ρ1 s1 H1) (b : Nx K mg ρ1 s1 H1 ρ2 s2 H2) : Nx K mg ρ s H ρ2 s2 H2 :=
  ⟨b.rel, a.keep.trans b.keep, fun i hi => (b.agr i (Nat.lt_of_lt_of_le hi a.len)).trans (a.agr i hi), Nat.le_trans a.len b.len, fun n kvs e => by
    have hn : n < s.g.length := (List.getElem?_eq_some_iff.mp e).1
    obtain ⟨e1, f1⟩ := a.fz n kvs e
    obtain ⟨e2, f2⟩ := b.fz n kvs e1
    refine ⟨e2, fun o ws q => ?_⟩
    have q1 := f1 o ws q
    rw [← a.agr n hn] at q1 ⊢
    exact f2 o ws q1⟩
theorem Nx.rv (a : Nx K mg ρ s H ρ1 s1 H1) {pv : PV} {v : V} (r : RV K mg H ρ pv v) (b : pv.bd s.g.length = true) : RV K mg H1 ρ1 pv v := RV.mono a.keep a.agr r b
theorem Nx.rvs (a : Nx K mg ρ s H ρ1 s1 H1) {xs : List PV} {vs : List V} (r : RVs K mg H ρ xs vs) (b : xs.all (PV.bd s.g.length) = true) : RVs K mg H1 ρ1 xs vs := RVs.mono a.keep a.agr r b
theorem Nx.bl (a : Nx K mg ρ s H ρ1 s1 H1) {pv : PV} (b : pv.bd s.g.length = true) : pv.bd s1.g.length = true := bd_mono a.len _ b
theorem Nx.bls (a : Nx K mg ρ s H ρ1 s1 H1) {xs : List PV} (b : xs.all (PV.bd s.g.length) = true) : xs.all (PV.bd s1.g.length) = true := alls_mono a.len b
theorem SRel.mono (a : Nx K mg ρ s H ρ1 s1 H1) (h : SRel K mg ρ s H p σ) : SRel K mg ρ1 s1 H1 p σ :=
  ⟨h.len, fun i pv e => let ⟨b, v, e1, r⟩ := h.at_ i pv e; ⟨a.bl b, v, e1, a.rv r b⟩⟩
/-- a cell's address is tracked -/
theorem CellRel.there {o : PO} {a : Addr} (h : CellRel K mg H ρ o a) : ∃ u, H a = some u ∧ (∀ vs, u ≠ .tup vs) ∧ Soft u := by
  cases o with
  | lst xs => obtain ⟨vs, e, _⟩ := h; exact ⟨_, e, fun _ z => (by cases z), fun _ _ => ⟨fun z => (by cases z), fun z => (by cases z)⟩, fun _ z => (by cases z), fun _ z => (by cases z), fun _ z => (by cases z)⟩
  | dic kvs lk =>
    cases lk with
    | false => obtain ⟨vs, e, _⟩ := h; exact ⟨_, e, fun _ z => (by cases z), fun _ _ => ⟨fun z => (by cases z), fun z => (by cases z)⟩, fun _ z => (by cases z), fun _ z => (by cases z), fun _ z => (by cases z)⟩
    | true => obtain ⟨ob, vs, e, _⟩ := h; exact ⟨_, e, fun _ z => (by cases z), fun _ _ => ⟨fun z => (by cases z), fun z => (by cases z)⟩, fun _ z => (by cases z), fun _ z => (by cases z), fun _ z => (by cases z)⟩
  | ins C fs => obtain ⟨Ca, dx, ws, _, e, _⟩ := h; exact ⟨_, e, fun _ z => (by cases z), fun _ _ => ⟨fun z => (by cases z), fun z => (by cases z)⟩, fun _ z => (by cases z), fun _ z => (by cases z), fun _ z => (by cases z)⟩
theorem Rel.nofr (h : Rel K mg ρ s H) {a : Addr} (ha : H a = none) {i : Nat} (hi : i < s.g.length) : ρ i ≠ a := fun e => by
  obtain ⟨u, q, _⟩ := (h.cell i s.g[i] (by simp [hi])).there
  rw [e, ha] at q
  cases q
def rput (ρ : Nat → Addr) (n : Nat) (a : Addr) : Nat → Addr := fun i => if i = n then a else ρ i
theorem rput_ne {n i : Nat} {a : Addr} (h : i ≠ n) : rput ρ n a i = ρ i := if_neg h
theorem rput_eq {n : Nat} {a : Addr} : rput ρ n a n = a := if_pos rfl
/-- a new cell -/
theorem Rel.push {o : PO} {a : Addr} {u : HO} (h : Rel K mg ρ s H) (ha : H a = none) (hb : o.bd s.g.length = true) (hc : CellRel K mg (upd H a u) ρ o a) :
    Nx K mg ρ s H (rput ρ s.g.length a) (s.push o) (upd H a u) := by
  have kp : Keep K H (upd H a u) := Keep.new ha
  have ag : ∀ i, i < s.g.length → rput ρ s.g.length a i = ρ i := fun i hi => rput_ne (by omega)
  have ln : (s.push o).g.length = s.g.length + 1 := by show (s.g ++ [o]).length = _; simp
  refine ⟨⟨fun i ob e => ?_, fun i j hi hj e => ?_, fun i ob e => ?_⟩, kp, ag, by omega, fun n kvs e => ?_⟩
  · have e' : (s.g ++ [o])[i]? = some ob := e
    by_cases hi : i < s.g.length
    · rw [List.getElem?_append_left hi] at e'
      rw [ag i hi]
      exact CellRel.mono kp ag (h.wf i ob e') (h.cell i ob e') fun w q => by rw [upd_ne (h.nofr ha hi)]; exact q
    · have hi2 : i < (s.g ++ [o]).length := (List.getElem?_eq_some_iff.mp e').1
      have hi3 : i = s.g.length := by simp at hi2; omega
      subst hi3
      have eo : o = ob := by simpa using e'
      subst eo
      rw [rput_eq]
      exact CellRel.mono Keep.refl ag hb hc fun _ q => q
  · rw [ln] at hi hj
    by_cases h1 : i = s.g.length
    · by_cases h2 : j = s.g.length
      · omega
      · rw [h1, rput_eq, rput_ne h2] at e
        exact absurd e.symm (h.nofr ha (by omega))
    · by_cases h2 : j = s.g.length
      · rw [h2, rput_eq, rput_ne h1] at e
        exact absurd e (h.nofr ha (by omega))
      · rw [rput_ne h1, rput_ne h2] at e
        exact h.inj i j (by omega) (by omega) e
  · have e' : (s.g ++ [o])[i]? = some ob := e
    rw [ln]
    by_cases hi : i < s.g.length
    · rw [List.getElem?_append_left hi] at e'
      exact PO.bd_mono (Nat.le_succ _) (h.wf i ob e')
    · have hi2 : i < (s.g ++ [o]).length := (List.getElem?_eq_some_iff.mp e').1
      have hi3 : i = s.g.length := by simp at hi2; omega
      subst hi3
      have eo : o = ob := by simpa using e'
      subst eo
      exact PO.bd_mono (Nat.le_succ _) hb
  · have hn : n < s.g.length := (List.getElem?_eq_some_iff.mp e).1
    refine ⟨?_, fun o' ws q => ?_⟩
    · show (s.g ++ [o])[n]? = _
      rw [List.getElem?_append_left hn]
      exact e
    · rw [upd_ne (h.nofr ha hn)]
      exact q
/-- a cell is changed -/
theorem Rel.wr0 {o o' : PO} {i : Nat} {u : HO} (h : Rel K mg ρ s H) (hi : s.g[i]? = some o) (hb : o'.bd s.g.length = true) (hc : CellRel K mg (upd H (ρ i) u) ρ o' (ρ i)) :
    Keep K H (upd H (ρ i) u) ∧ ∀ low, Rel K mg ρ ⟨s.g.set i o', low⟩ (upd H (ρ i) u) := by
  have hl : i < s.g.length := (List.getElem?_eq_some_iff.mp hi).1
  obtain ⟨w, hw, w1, w2⟩ := (h.cell i o hi).there
  have kp : Keep K H (upd H (ρ i) u) := Keep.updH fun v e => by
    rw [hw] at e
    cases e
    exact ⟨w1, w2⟩
  have ln : (s.g.set i o').length = s.g.length := by simp
  refine ⟨kp, fun low => ⟨fun j ob e => ?_, fun j k hj hk e => ?_, fun j ob e => ?_⟩⟩
  · have e' : (s.g.set i o')[j]? = some ob := e
    by_cases hj : j = i
    · subst hj
      rw [List.getElem?_set_self hl] at e'
      cases e'
      exact hc
    · rw [List.getElem?_set_ne (Ne.symm hj)] at e'
      have jl : j < s.g.length := (List.getElem?_eq_some_iff.mp e').1
      exact CellRel.mono kp (fun _ _ => rfl) (h.wf j ob e') (h.cell j ob e') fun w q => by rw [upd_ne fun z => hj (h.inj j i jl hl z)]; exact q
  · have hj : j < (s.g.set i o').length := hj
    have hk : k < (s.g.set i o').length := hk
    rw [ln] at hj hk
    exact h.inj j k hj hk e
  · have e' : (s.g.set i o')[j]? = some ob := e
    show ob.bd (s.g.set i o').length = true
    rw [ln]
    by_cases hj : j = i
    · subst hj
      rw [List.getElem?_set_self hl] at e'
      cases e'
      exact hb
    · rw [List.getElem?_set_ne (Ne.symm hj)] at e'
      exact h.wf j ob e'
theorem Rel.wr {o o' : PO} {i : Nat} {u : HO} (h : Rel K mg ρ s H) (hi : s.g[i]? = some o) (hnl : ∀ kvs, o ≠ .dic kvs true) (hb : o'.bd s.g.length = true) (hc : CellRel K mg (upd H (ρ i) u) ρ o' (ρ i)) :
    Nx K mg ρ s H ρ (s.wr i o') (upd H (ρ i) u) := by
  obtain ⟨kp, r⟩ := h.wr0 hi hb hc
  have hl : i < s.g.length := (List.getElem?_eq_some_iff.mp hi).1
  refine ⟨r _, kp, fun _ _ => rfl, by show _ ≤ (s.g.set i o').length; simp, fun n kvs e => ?_⟩
  have hn : n < s.g.length := (List.getElem?_eq_some_iff.mp e).1
  have hne : n ≠ i := fun z => by
    rw [z, hi] at e
    exact hnl kvs (Option.some.inj e)
  refine ⟨?_, fun o' ws q => ?_⟩
  · show (s.g.set i _)[n]? = _
    rw [List.getElem?_set_ne (Ne.symm hne)]
    exact e
  · rw [upd_ne fun z => hne (h.inj n i hn hl z)]
    exact q
end
end Bi

end
section
set_option Elab.async false
set_option linter.all false
set_option autoImplicit false
set_option maxRecDepth 100000
set_option maxHeartbeats 1000000
/-! Bi1: what it is for a Lean function to say what an expression does (Sim); rules for it. -/
namespace Bi
open PySem L2

/-- the wish of an exception of the program's own at a heap -/
def PostX (K : PySem.W.Frag) (mg : Str → Option Value) (W : WX) (ρ : Nat → Addr) (s : Sg) (H : Hp) (σ : L2.St) (C : Str) (v : PV) (s' : Sg) : Prop :=
  ∀ ρ' H' Ca dd u, Nx K mg ρ s H ρ' s' H' → mg C = some (.ref Ca) → H' dd = some (.xd [(("value" : Str), u)]) → v.bd s'.g.length = true → RV K mg H' ρ' v u → W (.ref Ca) (some dd) σ H'
def Post {α β : Type} (K : PySem.W.Frag) (mg : Str → Option Value) (RR : Hp → (Nat → Addr) → Sg → α → β → Prop) (W : WX) (ρ : Nat → Addr) (s : Sg) (H : Hp) (σ : L2.St) (Q : β → Hp → Prop) : R α → Prop
  | .ok v s' => ∀ ρ' H' u, Nx K mg ρ s H ρ' s' H' → RR H' ρ' s' v u → Q u H'
  | .err C v s' => PostX K mg W ρ s H σ C v s'
  | .bad => False
def RRv (K : PySem.W.Frag) (mg : Str → Option Value) (H : Hp) (ρ : Nat → Addr) (s : Sg) (v : PV) (u : V) : Prop := v.bd s.g.length = true ∧ RV K mg H ρ v u
def RRl (K : PySem.W.Frag) (mg : Str → Option Value) (H : Hp) (ρ : Nat → Addr) (s : Sg) (v : List PV) (u : List V) : Prop := v.all (PV.bd s.g.length) = true ∧ RVs K mg H ρ v u
def RRn (H : Hp) (ρ : Nat → Addr) (s : Sg) (v : PV) (u : Bool) : Prop := v = .bl u
/-- the value is a bool -/
def isB : R PV → Prop
  | .ok v _ => ∃ b, v = .bl b
  | _ => True
/-- by the answer of a test -/
def onB {α : Type} (f : Bool → Sg → R α) : PV → Sg → R α
  | .bl b, s => f b s
  | _, _ => .bad
def GdR {α : Type} (s : Sg) : R α → Prop
  | .ok _ s' => Gd s s'
  | .err _ _ s' => Gd s s'
  | .bad => True
section
variable (K : PySem.W.Frag) (mg : Str → Option Value)
abbrev PostE := Post K mg (RRv K mg)
abbrev PostL := Post K mg (RRl K mg)
def tE (W : WX) (φ : Phi) (m : ME) : TE := fun σ H Q => ∃ ρ p s, Rel K mg ρ s H ∧ SRel K mg ρ s H p σ ∧ PostE K mg W ρ s H σ Q (m φ p s)
def tA (W : WX) (φ : Phi) (m : ML) : TA := fun σ H Q => ∃ ρ p s, Rel K mg ρ s H ∧ SRel K mg ρ s H p σ ∧ PostL K mg W ρ s H σ Q (m φ p s)
def tT (W : WX) (φ : Phi) (m : ME) : TT := fun σ H Q => ∃ ρ p s, Rel K mg ρ s H ∧ SRel K mg ρ s H p σ ∧ isB (m φ p s) ∧ Post K mg RRn W ρ s H σ Q (m φ p s)
end
structure Sim (X : Cx) (W : WX) (φ : Phi) (m : ME) (e : Expr) : Prop where
  pe : PE X e (tE X.K X.mg W φ m)
  pt : PT X e (tT X.K X.mg W φ m)
  gd : ∀ p s, GdR s (m φ p s)
structure SimA (X : Cx) (W : WX) (φ : Phi) (m : ML) (es : List Expr) : Prop where
  pa : PA X es (tA X.K X.mg W φ m)
  gd : ∀ p s, GdR s (m φ p s)
theorem PE.imp {X : Cx} {e : Expr} {t t' : TE} (h : PE X e t) (k : ∀ σ H Q, t' σ H Q → t σ H Q) : PE X e t' := ⟨fun pins s σ H Q I q => h.run pins s σ H Q I (k σ H Q q)⟩
theorem PT.imp {X : Cx} {e : Expr} {t t' : TT} (h : PT X e t) (k : ∀ σ H Q, t' σ H Q → t σ H Q) : PT X e t' := ⟨fun pins s σ H Q I q => h.run pins s σ H Q I (k σ H Q q)⟩
theorem PA.imp {X : Cx} {e : List Expr} {t t' : TA} (h : PA X e t) (k : ∀ σ H Q, t' σ H Q → t σ H Q) : PA X e t' := ⟨fun pos pins s σ H Q I q => h.run pos pins s σ H Q I (k σ H Q q)⟩
theorem PS.imp {X : Cx} {e : Stmt} {t t' : TS} (h : PS X e t) (k : ∀ D σ H, t' D σ H → t D σ H) : PS X e t' := ⟨fun pins s σ H D I q => h.run pins s σ H D I (k D σ H q)⟩
/-- an expression that is tested by its value -/
def PlainT (X : Cx) (e : Expr) : Prop := ∀ whole, isTrue e X.env whole = (do let v ← whole; standAt e.pos; holding [v] (truthy v))
section
variable {K : PySem.W.Frag} {mg : Str → Option Value} {H H' H1 H2 : Hp} {ρ ρ' ρ1 ρ2 : Nat → Addr} {s s' s1 s2 : Sg} {p : Sl} {σ : L2.St} {W : WX} {φ : Phi}
theorem PostX.step {C : Str} {v : PV} (h : PostX K mg W ρ s H σ C v s') (n : Nx K mg ρ s H ρ1 s1 H1) : PostX K mg W ρ1 s1 H1 σ C v s' := fun ρ' H' Ca dd u n' => h ρ' H' Ca dd u (n.trans n')
theorem Post.step {α β : Type} {RR : Hp → (Nat → Addr) → Sg → α → β → Prop} {Q : β → Hp → Prop} {r : R α} (h : Post K mg RR W ρ s H σ Q r) (n : Nx K mg ρ s H ρ1 s1 H1) : Post K mg RR W ρ1 s1 H1 σ Q r := by
  cases r with
  | ok v s' => exact fun ρ' H' u n' => h ρ' H' u (n.trans n')
  | err C v s' => exact PostX.step h n
  | bad => exact h
theorem GdR.bind {α β : Type} {r : R α} {f : α → Sg → R β} (h : GdR s r) (k : ∀ v s', r = .ok v s' → GdR s' (f v s')) : GdR s (r.bind f) := by
  cases r with
  | ok v s' =>
    have q := k v s' rfl
    show GdR s (f v s')
    cases e : f v s' with
    | ok w s2 => rw [e] at q; exact Gd.trans h q
    | err C w s2 => rw [e] at q; exact Gd.trans h q
    | bad => trivial
  | err C v s' => exact h
  | bad => trivial
/-- m, then f -/
theorem tE_seq {m : ME} {β : Type} {α' : Type} {RR : Hp → (Nat → Addr) → Sg → α' → β → Prop} {f : PV → Sg → R α'} {Q : β → Hp → Prop} {Q' : VK} (rel : Rel K mg ρ s H) (sr : SRel K mg ρ s H p σ) (h : Post K mg RR W ρ s H σ Q ((m φ p s).bind f))
    (k : ∀ v s1 ρ1 H1 u, m φ p s = .ok v s1 → Nx K mg ρ s H ρ1 s1 H1 → v.bd s1.g.length = true → RV K mg H1 ρ1 v u → SRel K mg ρ1 s1 H1 p σ → Post K mg RR W ρ1 s1 H1 σ Q (f v s1) → Q' u H1) : tE K mg W φ m σ H Q' := by
  refine ⟨ρ, p, s, rel, sr, ?_⟩
  cases e : m φ p s with
  | ok v s1 =>
    rw [e] at h
    exact fun ρ1 H1 u n r => k v s1 ρ1 H1 u e n r.1 r.2 (sr.mono n) (Post.step h n)
  | err C v s1 => rw [e] at h; exact h
  | bad => rw [e] at h; exact h
theorem tA_seq {m : ML} {β : Type} {α' : Type} {RR : Hp → (Nat → Addr) → Sg → α' → β → Prop} {f : List PV → Sg → R α'} {Q : β → Hp → Prop} {Q' : List V → Hp → Prop} (rel : Rel K mg ρ s H) (sr : SRel K mg ρ s H p σ) (h : Post K mg RR W ρ s H σ Q ((m φ p s).bind f))
    (k : ∀ v s1 ρ1 H1 u, m φ p s = .ok v s1 → Nx K mg ρ s H ρ1 s1 H1 → v.all (PV.bd s1.g.length) = true → RVs K mg H1 ρ1 v u → SRel K mg ρ1 s1 H1 p σ → Post K mg RR W ρ1 s1 H1 σ Q (f v s1) → Q' u H1) : tA K mg W φ m σ H Q' := by
  refine ⟨ρ, p, s, rel, sr, ?_⟩
  cases e : m φ p s with
  | ok v s1 =>
    rw [e] at h
    exact fun ρ1 H1 u n r => k v s1 ρ1 H1 u e n r.1 r.2 (sr.mono n) (Post.step h n)
  | err C v s1 => rw [e] at h; exact h
  | bad => rw [e] at h; exact h
/-- a test, then by its answer -/
theorem tT_seq {m : ME} {β : Type} {α' : Type} {RR : Hp → (Nat → Addr) → Sg → α' → β → Prop} {f : Bool → Sg → R α'} {Q : β → Hp → Prop} {Q' : Bool → Hp → Prop} (rel : Rel K mg ρ s H) (sr : SRel K mg ρ s H p σ)
    (h : Post K mg RR W ρ s H σ Q ((m φ p s).bind (onB f)))
    (k : ∀ b s1 ρ1 H1, m φ p s = .ok (.bl b) s1 → Nx K mg ρ s H ρ1 s1 H1 → SRel K mg ρ1 s1 H1 p σ → Post K mg RR W ρ1 s1 H1 σ Q (f b s1) → Q' b H1) : tT K mg W φ m σ H Q' := by
  refine ⟨ρ, p, s, rel, sr, ?_⟩
  cases e : m φ p s with
  | ok v s1 =>
    rw [e] at h
    have h1 : Post K mg RR W ρ s H σ Q (onB f v s1) := h
    cases v with
    | bl b =>
      refine ⟨⟨b, rfl⟩, fun ρ1 H1 u n r => ?_⟩
      have eb : b = u := by injection r
      subst eb
      exact k b s1 ρ1 H1 e n (sr.mono n) (Post.step h1 n)
    | _ => exact h1.elim
  | err C v s1 => rw [e] at h; exact ⟨trivial, h⟩
  | bad => rw [e] at h; exact h.elim
theorem post_ok {Q : VK} {v : PV} (h : Post K mg (RRv K mg) W ρ s H σ Q (.ok v s')) (n : Nx K mg ρ s H ρ1 s' H1) (b : v.bd s'.g.length = true) {u : V} (r : RV K mg H1 ρ1 v u) : Q u H1 := h ρ1 H1 u n ⟨b, r⟩
end
section
variable {X : Cx} {W : WX} {φ : Phi} {m ma mb mc : ME} {e a b c : Expr} {pos : Pos}
theorem tT_val {K : PySem.W.Frag} {mg : Str → Option Value} {σ : L2.St} {H : Hp} {Q : Bool → Hp → Prop} (h : tT K mg W φ m σ H Q) : tB (tE K mg W φ m) σ H Q := by
  obtain ⟨ρ, p, s, rel, sr, hb, h⟩ := h
  refine ⟨ρ, p, s, rel, sr, ?_⟩
  cases e : m φ p s with
  | ok v s1 =>
    rw [e] at h hb
    obtain ⟨b, rfl⟩ := hb
    intro ρ1 H1 u n r
    obtain ⟨_, r⟩ := r
    cases r
    exact ⟨b, rfl, h ρ1 H1 b n rfl⟩
  | err C v s1 => rw [e] at h; exact h
  | bad => rw [e] at h; exact h
theorem Sim.mk1 (pe : PE X e (tE X.K X.mg W φ m)) (he : PlainT X e) (gd : ∀ p s, GdR s (m φ p s)) : Sim X W φ m e := ⟨pe, PT.imp (pt_val pe he) fun _ _ _ h => tT_val h, gd⟩
/-- a comparison -/
theorem Sim.mkC {op : CmpOp} {r : R2} {ta tb : TE} (ho : OpR X (compareOp op) r) (ha : PE X a ta) (hb : PE X b tb) (hm : behindInMarks op b = false) (k : ∀ σ H Q, tE X.K X.mg W φ m σ H Q → tOp r ta tb σ H Q)
    (gd : ∀ p s, GdR s (m φ p s)) : Sim X W φ m (.Compare a [op] [b] pos) :=
  ⟨PE.imp (pe_cmpR ho ha hb hm) k, PT.imp (pt_cmpR ho ha hb hm) fun σ H Q h => k σ H _ (tT_val h), gd⟩

/-! ### constants and names -/
def mC (v : PV) : ME := fun _ _ s => .ok v s
def mVar (i : Nat) : ME := fun _ p s => match p[i]? with | some (some v) => .ok v s | _ => .bad
/-- a value without the heap -/
def flatP : PV → Option V
  | .non => some .non
  | .bl b => some (.bl b)
  | .int i => some (.int i)
  | .str x => some (.str x)
  | .ty n => some (.ty n)
  | _ => none
theorem rv_flat {K : PySem.W.Frag} {mg : Str → Option Value} {H : Hp} {ρ : Nat → Addr} {v : PV} {u : V} (h : flatP v = some u) : RV K mg H ρ v u := by
  cases v with
  | non => cases h; exact .non
  | bl b => cases h; exact .bl b
  | int i => cases h; exact .int i
  | str x => cases h; exact .str x
  | ty n => cases h; exact .ty n
  | _ => cases h
theorem bd_flat {v : PV} {u : V} {n : Nat} (h : flatP v = some u) : v.bd n = true := by
  cases v with
  | non => rw [PV.bd]
  | bl b => rw [PV.bd]
  | int i => rw [PV.bd]
  | str x => rw [PV.bd]
  | ty n => rw [PV.bd]
  | _ => cases h
theorem sim_const {v : PV} {u : V} (he : PE X e (tC u)) (hp : PlainT X e) (hr : ∀ H ρ, RV X.K X.mg H ρ v u) (hb : v.bd 0 = true) : Sim X W φ (mC v) e := by
  refine Sim.mk1 (PE.imp he fun σ H Q h => ?_) hp fun p s => Gd.refl s
  obtain ⟨ρ, p, s, rel, sr, h⟩ := h
  exact h ρ H u (Nx.refl rel) ⟨bd_mono (Nat.zero_le _) _ hb, hr H ρ⟩
theorem sim_var {i : Nat} {x : Str} (hN : X.N[i]? = some x) (hv : Vis X.env.scope x) (hd : (x == ("__debug__" : Str)) = false) (hcd : (x == ("__classdict__" : Str)) = false) : Sim X W φ (mVar i) (.Name x pos) := by
  refine Sim.mk1 (PE.imp (pe_var hN hv hd hcd) fun σ H Q h => ?_) (fun _ => rfl) fun p s => ?_
  · obtain ⟨ρ, p, s, rel, sr, h⟩ := h
    unfold mVar at h
    cases e : p[i]? with
    | none => rw [e] at h; exact h.elim
    | some o =>
      rw [e] at h
      cases o with
      | none => exact h.elim
      | some v =>
        obtain ⟨b, u, e2, r⟩ := sr.at_ i v e
        exact ⟨u, e2, h ρ H u (Nx.refl rel) ⟨b, r⟩⟩
  · unfold mVar
    cases p[i]? with
    | none => trivial
    | some o => cases o with
      | none => trivial
      | some v => exact Gd.refl s

/-! ### operators -/
def mBin (f : PV → PV → Sg → R PV) (ma mb : ME) : ME := fun φ p s => (ma φ p s).bind fun a s => (mb φ p s).bind fun b s => f a b s
/-- a function of two values does what the layer's rule asks -/
structure VR2 (K : PySem.W.Frag) (mg : Str → Option Value) (f : PV → PV → Sg → R PV) (r : R2) : Prop where
  run : ∀ (W : WX) (ρ : Nat → Addr) (s : Sg) (H : Hp) (σ : L2.St) (a b : PV) (x y : V) (Q : VK), Rel K mg ρ s H → a.bd s.g.length = true → b.bd s.g.length = true → RV K mg H ρ a x → RV K mg H ρ b y → PostE K mg W ρ s H σ Q (f a b s) → r x y H Q
  gd : ∀ a b s, GdR s (f a b s)
theorem mBin_gd {f : PV → PV → Sg → R PV} (h1 : ∀ p s, GdR s (ma φ p s)) (h2 : ∀ p s, GdR s (mb φ p s)) (h3 : ∀ a b s, GdR s (f a b s)) (p : Sl) (s : Sg) : GdR s (mBin f ma mb φ p s) :=
  (h1 p s).bind fun v s' _ => (h2 p s').bind fun w s'' _ => h3 v w s''
theorem tOp_of {f : PV → PV → Sg → R PV} {r : R2} (hf : VR2 X.K X.mg f r) {σ : L2.St} {H : Hp} {Q : VK} (h : tE X.K X.mg W φ (mBin f ma mb) σ H Q) : tOp r (tE X.K X.mg W φ ma) (tE X.K X.mg W φ mb) σ H Q := by
  obtain ⟨ρ, p, s, rel, sr, h⟩ := h
  refine tE_seq rel sr h fun v s1 ρ1 H1 u e1 n1 b1 r1 sr1 h1 => ?_
  refine tE_seq n1.rel sr1 h1 fun w s2 ρ2 H2 u2 e2 n2 b2 r2 sr2 h2 => ?_
  exact hf.run W ρ2 s2 H2 σ v w u u2 Q n2.rel (n2.bl b1) b2 (n2.rv r1 b1) r2 h2
theorem sim_bin {op : Operator} {f : PV → PV → Sg → R PV} {r : R2} (ho : OpR X (binaryOp op) r) (hf : VR2 X.K X.mg f r) (ha : Sim X W φ ma a) (hb : Sim X W φ mb b) : Sim X W φ (mBin f ma mb) (.BinOp a op b pos) :=
  Sim.mk1 (PE.imp (pe_op ho ha.pe hb.pe) fun σ H Q h => tOp_of hf h) (fun _ => rfl) (mBin_gd ha.gd hb.gd hf.gd)
theorem sim_cmp {op : CmpOp} {f : PV → PV → Sg → R PV} {r : R2} (ho : OpR X (compareOp op) r) (hf : VR2 X.K X.mg f r) (ha : Sim X W φ ma a) (hb : Sim X W φ mb b) (hm : behindInMarks op b = false) : Sim X W φ (mBin f ma mb) (.Compare a [op] [b] pos) :=
  Sim.mkC ho ha.pe hb.pe hm (fun σ H Q h => tOp_of hf h) (mBin_gd ha.gd hb.gd hf.gd)
/-- a <= b <= c -/
def mChain (f g : PV → PV → Sg → R PV) (ma mb mc : ME) : ME := fun φ p s => (ma φ p s).bind fun a s => (mb φ p s).bind fun b s => (f a b s).bind (onB fun t s => match t with
  | true => (mc φ p s).bind fun c s => g b c s
  | false => .ok (.bl false) s)
theorem sim_chain {op op' : CmpOp} {f g : PV → PV → Sg → R PV} {r r' : R2} (ho : OpR X (compareOp op) r) (ho' : OpR X (compareOp op') r') (hf : VR2 X.K X.mg f r) (hg : VR2 X.K X.mg g r') (ha : Sim X W φ ma a) (hb : Sim X W φ mb b) (hc : Sim X W φ mc c)
    (he : lastMarks [op, op'] [b, c] = false) : Sim X W φ (mChain f g ma mb mc) (.Compare a [op, op'] [b, c] pos) := by
  have k : ∀ σ H Q, tE X.K X.mg W φ (mChain f g ma mb mc) σ H Q → tChain r r' (tE X.K X.mg W φ ma) (tE X.K X.mg W φ mb) (tE X.K X.mg W φ mc) σ H Q := fun σ H Q h => by
    obtain ⟨ρ, p, s, rel, sr, h⟩ := h
    refine tE_seq rel sr h fun v s1 ρ1 H1 u e1 n1 b1 r1 sr1 h1 => ?_
    refine tE_seq n1.rel sr1 h1 fun w s2 ρ2 H2 u2 e2 n2 b2 r2 sr2 h2 => ?_
    refine hf.run W ρ2 s2 H2 σ v w u u2 _ n2.rel (n2.bl b1) b2 (n2.rv r1 b1) r2 ?_
    cases e : f v w s2 with
    | ok t s3 =>
      rw [e] at h2
      intro ρ3 H3 x n3 rx
      have h3 := Post.step h2 n3
      cases t with
      | bl k =>
        obtain ⟨_, rx⟩ := rx
        cases rx
        refine ⟨k, rfl, ?_⟩
        cases k with
        | true =>
          refine iteT (tE_seq n3.rel (sr2.mono n3) h3 fun z s4 ρ4 H4 u4 e4 n4 b4 r4 sr4 h4 => ?_)
          exact hg.run W ρ4 s4 H4 σ w z u2 u4 Q n4.rel (n4.bl (n3.bl b2)) b4 (n4.rv (n3.rv r2 b2) (n3.bl b2)) r4 h4
        | false =>
          exact iteF (post_ok h3 (Nx.refl n3.rel) (by rw [PV.bd]) (.bl false))
      | _ => exact h3.elim
    | err C t s3 => rw [e] at h2; exact h2
    | bad => rw [e] at h2; exact h2
  refine ⟨PE.imp (pe_chain ho ho' ha.pe hb.pe hc.pe he) k, PT.imp (pt_chain ho ho' ha.pe hb.pe hc.pe he) fun σ H Q h => k σ H _ (tT_val h), fun p s => ?_⟩
  refine (ha.gd p s).bind fun v s1 _ => (hb.gd p s1).bind fun w s2 _ => (hf.gd v w s2).bind fun t s3 _ => ?_
  cases t with
  | bl k => cases k with
    | true => exact (hc.gd p s3).bind fun z s4 _ => hg.gd w z s4
    | false => exact Gd.refl _
  | _ => trivial
def mUn (f : PV → Sg → R PV) (ma : ME) : ME := fun φ p s => (ma φ p s).bind f
structure VR1 (K : PySem.W.Frag) (mg : Str → Option Value) (f : PV → Sg → R PV) (r : V → Hp → VK → Prop) : Prop where
  run : ∀ (W : WX) (ρ : Nat → Addr) (s : Sg) (H : Hp) (σ : L2.St) (a : PV) (x : V) (Q : VK), Rel K mg ρ s H → a.bd s.g.length = true → RV K mg H ρ a x → PostE K mg W ρ s H σ Q (f a s) → r x H Q
  gd : ∀ a s, GdR s (f a s)
theorem tUn_of {f : PV → Sg → R PV} {r : V → Hp → VK → Prop} (hf : VR1 X.K X.mg f r) {σ : L2.St} {H : Hp} {Q : VK} (h : tE X.K X.mg W φ (mUn f ma) σ H Q) : tUn r (tE X.K X.mg W φ ma) σ H Q := by
  obtain ⟨ρ, p, s, rel, sr, h⟩ := h
  refine tE_seq rel sr h fun v s1 ρ1 H1 u e1 n1 b1 r1 sr1 h1 => ?_
  exact hf.run W ρ1 s1 H1 σ v u Q n1.rel b1 r1 h1
theorem sim_un {op : UnaryOp} {f : PV → Sg → R PV} {r : V → Hp → VK → Prop} (ho : UnR X (unaryOp op) r) (hf : VR1 X.K X.mg f r) (ha : Sim X W φ ma a) (hn : op ≠ .Not) : Sim X W φ (mUn f ma) (.UnaryOp op a pos) :=
  Sim.mk1 (PE.imp (pe_un ho ha.pe) fun σ H Q h => tUn_of hf h) (by cases op <;> first | exact fun _ => rfl | exact absurd rfl hn) fun p s => (ha.gd p s).bind fun v s' _ => hf.gd v s'

/-! ### and, or, not, if -/
def mNot (ma : ME) : ME := fun φ p s => (ma φ p s).bind (onB fun b s => .ok (.bl (!b)) s)
def mAnd (ma mb : ME) : ME := fun φ p s => (ma φ p s).bind (onB fun b s => match b with | true => mb φ p s | false => .ok (.bl false) s)
def mOr (ma mb : ME) : ME := fun φ p s => (ma φ p s).bind (onB fun b s => match b with | true => .ok (.bl true) s | false => mb φ p s)
def mIf (mc ma mb : ME) : ME := fun φ p s => (mc φ p s).bind (onB fun b s => match b with | true => ma φ p s | false => mb φ p s)
theorem sim_not (ha : Sim X W φ ma a) : Sim X W φ (mNot ma) (.UnaryOp .Not a pos) := by
  refine ⟨PE.imp (pe_not ha.pe) fun σ H Q h => ?_, PT.imp (pt_not ha.pt) fun σ H Q h => ?_, fun p s => (ha.gd p s).bind fun v s' _ => ?_⟩
  · obtain ⟨ρ, p, s, rel, sr, h⟩ := h
    refine tE_seq rel sr h fun v s1 ρ1 H1 u e1 n1 b1 r1 sr1 h1 => ?_
    cases v with
    | bl k =>
      cases r1
      exact ⟨k, rfl, post_ok h1 (Nx.refl n1.rel) (by rw [PV.bd]) (.bl _)⟩
    | _ => exact h1.elim
  · obtain ⟨ρ, p, s, rel, sr, hb, h⟩ := h
    refine tT_seq (f := fun b s => .ok (.bl (!b)) s) rel sr (RR := RRn) (Q := Q) ?_ fun b s1 ρ1 H1 e1 n1 sr1 h1 => h1 ρ1 H1 _ (Nx.refl n1.rel) rfl
    exact h
  · cases v with
    | bl k => exact Gd.refl _
    | _ => trivial
theorem and_gd (h1 : ∀ p s, GdR s (ma φ p s)) (h2 : ∀ p s, GdR s (mb φ p s)) (p : Sl) (s : Sg) : GdR s (mAnd ma mb φ p s) := (h1 p s).bind fun v s' _ => by
  cases v with
  | bl k => cases k with
    | true => exact h2 p s'
    | false => exact Gd.refl _
  | _ => trivial
theorem or_gd (h1 : ∀ p s, GdR s (ma φ p s)) (h2 : ∀ p s, GdR s (mb φ p s)) (p : Sl) (s : Sg) : GdR s (mOr ma mb φ p s) := (h1 p s).bind fun v s' _ => by
  cases v with
  | bl k => cases k with
    | true => exact Gd.refl _
    | false => exact h2 p s'
  | _ => trivial
/-- a and what is behind it, or one -/
structure SimB (X : Cx) (W : WX) (φ : Phi) (m : ME) (e : Expr) : Prop where
  pe : PE X e (tE X.K X.mg W φ m)
  pw : PW X e (tT X.K X.mg W φ m)
  gd : ∀ p s, GdR s (m φ p s)
theorem SimB.sim (h : SimB X W φ m e) : Sim X W φ m e := ⟨h.pe, h.pw.pt, h.gd⟩
theorem PW.imp {X : Cx} {e : Expr} {t t' : TT} (h : PW X e t) (k : ∀ σ H Q, t' σ H Q → t σ H Q) : PW X e t' := ⟨fun w pins s σ H Q I q => h.run w pins s σ H Q I (k σ H Q q)⟩
theorem simb_and1 (ha : Sim X W φ ma a) : SimB X W φ ma (.BoolOp .And [a] pos) := ⟨pe_one ha.pe, pw_and1 ha.pt, ha.gd⟩
theorem simb_or1 (ha : Sim X W φ ma a) : SimB X W φ ma (.BoolOp .Or [a] pos) := ⟨pe_one ha.pe, pw_or1 ha.pt, ha.gd⟩
theorem simb_and {rest : List Expr} (ha : Sim X W φ ma a) (hb : SimB X W φ mb (.BoolOp .And (b :: rest) pos)) : SimB X W φ (mAnd ma mb) (.BoolOp .And (a :: b :: rest) pos) := by
  refine ⟨PE.imp (pe_and ha.pe hb.pe) fun σ H Q h => ?_, PW.imp (pw_and ha.pt hb.pw) fun σ H Q h => ?_, and_gd ha.gd hb.gd⟩
  · obtain ⟨ρ, p, s, rel, sr, h⟩ := h
    refine tE_seq rel sr h fun v s1 ρ1 H1 u e1 n1 b1 r1 sr1 h1 => ?_
    cases v with
    | bl k =>
      cases r1
      refine ⟨k, rfl, ?_⟩
      cases k with
      | true => exact iteT (⟨ρ1, p, s1, n1.rel, sr1, h1⟩)
      | false => exact iteF (post_ok h1 (Nx.refl n1.rel) (by rw [PV.bd]) (.bl _))
    | _ => exact h1.elim
  · obtain ⟨ρ, p, s, rel, sr, hb', h⟩ := h
    refine ⟨ρ, p, s, rel, sr, ?_⟩
    unfold mAnd at h hb'
    cases e1 : ma φ p s with
    | ok v s1 =>
      rw [e1] at h hb'
      cases v with
      | bl k =>
        refine ⟨⟨k, rfl⟩, fun ρ1 H1 u n r => ?_⟩
        have eb : k = u := by injection r
        subst eb
        cases k with
        | true => exact iteT (⟨ρ1, p, s1, n.rel, sr.mono n, hb', Post.step h n⟩)
        | false => exact iteF (h ρ1 H1 false n rfl)
      | _ => exact h.elim
    | err C v s1 => rw [e1] at h; exact ⟨trivial, h⟩
    | bad => rw [e1] at h; exact h.elim
theorem simb_or {rest : List Expr} (ha : Sim X W φ ma a) (hb : SimB X W φ mb (.BoolOp .Or (b :: rest) pos)) : SimB X W φ (mOr ma mb) (.BoolOp .Or (a :: b :: rest) pos) := by
  refine ⟨PE.imp (pe_or ha.pe hb.pe) fun σ H Q h => ?_, PW.imp (pw_or ha.pt hb.pw) fun σ H Q h => ?_, or_gd ha.gd hb.gd⟩
  · obtain ⟨ρ, p, s, rel, sr, h⟩ := h
    refine tE_seq rel sr h fun v s1 ρ1 H1 u e1 n1 b1 r1 sr1 h1 => ?_
    cases v with
    | bl k =>
      cases r1
      refine ⟨k, rfl, ?_⟩
      cases k with
      | true => exact iteT (post_ok h1 (Nx.refl n1.rel) (by rw [PV.bd]) (.bl _))
      | false => exact iteF (⟨ρ1, p, s1, n1.rel, sr1, h1⟩)
    | _ => exact h1.elim
  · obtain ⟨ρ, p, s, rel, sr, hb', h⟩ := h
    refine ⟨ρ, p, s, rel, sr, ?_⟩
    unfold mOr at h hb'
    cases e1 : ma φ p s with
    | ok v s1 =>
      rw [e1] at h hb'
      cases v with
      | bl k =>
        refine ⟨⟨k, rfl⟩, fun ρ1 H1 u n r => ?_⟩
        have eb : k = u := by injection r
        subst eb
        cases k with
        | true => exact iteT (h ρ1 H1 true n rfl)
        | false => exact iteF (⟨ρ1, p, s1, n.rel, sr.mono n, hb', Post.step h n⟩)
      | _ => exact h.elim
    | err C v s1 => rw [e1] at h; exact ⟨trivial, h⟩
    | bad => rw [e1] at h; exact h.elim
/-- c ? a : b, tested -/
theorem pt_ifExp {tc ta tb : TT} (hc : PT X c tc) (ha : PT X a ta) (hb : PT X b tb) : PT X (.IfExp c a b pos) (fun σ H Q => tc σ H fun k H1 => if k = true then ta σ H1 Q else tb σ H1 Q) := by
  refine ⟨fun pins s σ H Q I h => ?_⟩
  show wpAny _ _ (do if ← isTrue c X.env (eval c X.env) then isTrue a X.env (eval a X.env) else isTrue b X.env (eval b X.env)) _ _ s
  refine wpAny_bind (thn (hc.run pins s σ H _ I h) fun d s1 ⟨H1, I1, q1⟩ => ?_)
  cases d with
  | true => exact ha.run pins s1 σ H1 Q I1 q1
  | false => exact hb.run pins s1 σ H1 Q I1 q1
theorem sim_if (hc : Sim X W φ mc c) (ha : Sim X W φ ma a) (hb : Sim X W φ mb b) : Sim X W φ (mIf mc ma mb) (.IfExp c a b pos) := by
  have gd : ∀ p s, GdR s (mIf mc ma mb φ p s) := fun p s => (hc.gd p s).bind fun v s' _ => by
    cases v with
    | bl k => cases k with
      | true => exact ha.gd p s'
      | false => exact hb.gd p s'
    | _ => trivial
  refine ⟨PE.imp (pe_ifExp hc.pt ha.pe hb.pe) fun σ H Q h => ?_, PT.imp (pt_ifExp hc.pt ha.pt hb.pt) fun σ H Q h => ?_, gd⟩
  · obtain ⟨ρ, p, s, rel, sr, h⟩ := h
    refine ⟨ρ, p, s, rel, sr, ?_⟩
    unfold mIf at h
    cases e1 : mc φ p s with
    | ok v s1 =>
      rw [e1] at h
      cases v with
      | bl k =>
        refine ⟨⟨k, rfl⟩, fun ρ1 H1 u n r => ?_⟩
        have eb : k = u := by injection r
        subst eb
        cases k with
        | true => exact iteT (⟨ρ1, p, s1, n.rel, sr.mono n, Post.step h n⟩)
        | false => exact iteF (⟨ρ1, p, s1, n.rel, sr.mono n, Post.step h n⟩)
      | _ => exact h.elim
    | err C v s1 => rw [e1] at h; exact ⟨trivial, h⟩
    | bad => rw [e1] at h; exact h.elim
  · obtain ⟨ρ, p, s, rel, sr, hb', h⟩ := h
    refine ⟨ρ, p, s, rel, sr, ?_⟩
    unfold mIf at h hb'
    cases e1 : mc φ p s with
    | ok v s1 =>
      rw [e1] at h hb'
      cases v with
      | bl k =>
        refine ⟨⟨k, rfl⟩, fun ρ1 H1 u n r => ?_⟩
        have eb : k = u := by injection r
        subst eb
        cases k with
        | true => exact iteT (⟨ρ1, p, s1, n.rel, sr.mono n, hb', Post.step h n⟩)
        | false => exact iteF (⟨ρ1, p, s1, n.rel, sr.mono n, hb', Post.step h n⟩)
      | _ => exact h.elim
    | err C v s1 => rw [e1] at h; exact ⟨trivial, h⟩
    | bad => rw [e1] at h; exact h.elim

/-! ### argument lists, displays -/
def mNil : ML := fun _ _ s => .ok [] s
def mCons (m : ME) (r : ML) : ML := fun φ p s => (m φ p s).bind fun v s => (r φ p s).bind fun vs s => .ok (v :: vs) s
theorem sima_nil : SimA X W φ mNil [] := by
  refine ⟨PA.imp pa_nil fun σ H Q h => ?_, fun p s => Gd.refl s⟩
  obtain ⟨ρ, p, s, rel, sr, h⟩ := h
  exact h ρ H [] (Nx.refl rel) ⟨rfl, .nil⟩
theorem sima_cons {es : List Expr} {mr : ML} (he : Sim X W φ m e) (hr : SimA X W φ mr es) (hs : starEach (e :: es) X.env = (false, eval e X.env) :: starEach es X.env) : SimA X W φ (mCons m mr) (e :: es) := by
  refine ⟨PA.imp (pa_cons he.pe hr.pa hs) fun σ H Q h => ?_, fun p s => (he.gd p s).bind fun v s' _ => (hr.gd p s').bind fun w s'' _ => Gd.refl _⟩
  obtain ⟨ρ, p, s, rel, sr, h⟩ := h
  refine tE_seq rel sr h fun v s1 ρ1 H1 u e1 n1 b1 r1 sr1 h1 => ?_
  refine tA_seq n1.rel sr1 h1 fun w s2 ρ2 H2 us e2 n2 b2 r2 sr2 h2 => ?_
  refine h2 ρ2 H2 (u :: us) (Nx.refl n2.rel) ⟨?_, .cons (n2.rv r1 b1) r2⟩
  rw [List.all_cons, n2.bl b1, b2]
  rfl
def mTup (r : ML) : ME := fun φ p s => (r φ p s).bind fun vs s => if vs.length ≤ sizeLine then .ok (.tup vs) s else .bad
def mLst (r : ML) : ME := fun φ p s => (r φ p s).bind fun vs s => if vs.length ≤ sizeLine then .ok (.ref s.g.length) (s.push (.lst vs)) else .bad
theorem sqt_new {K : PySem.W.Frag} {H : Hp} {p : Addr} {vs : List V} : SqT K (upd H p (.tup vs)) p vs := SqT.of upd_same
/-- a new tuple -/
theorem rv_tup_new {K : PySem.W.Frag} {mg : Str → Option Value} {ρ : Nat → Addr} {s : Sg} {H : Hp} {vs : List PV} {us : List V} {a : Addr} (rel : Rel K mg ρ s H) (ha : H a = none) (hb : vs.all (PV.bd s.g.length) = true) (hr : RVs K mg H ρ vs us) :
    Nx K mg ρ s H ρ s (upd H a (.tup us)) ∧ RV K mg (upd H a (.tup us)) ρ (.tup vs) (.ref a) := by
  have kp : Keep K H (upd H a (.tup us)) := Keep.new ha
  refine ⟨⟨⟨fun i o e => ?_, rel.inj, rel.wf⟩, kp, fun _ _ => rfl, Nat.le_refl _, fun n kvs e => ⟨e, fun o ws q => by
    rw [upd_ne (rel.nofr ha (List.getElem?_eq_some_iff.mp e).1)]
    exact q⟩⟩, RV.tup_iff.mpr ⟨a, us, rfl, sqt_new, RVs.mono kp (fun _ _ => rfl) hr hb⟩⟩
  have hi : i < s.g.length := (List.getElem?_eq_some_iff.mp e).1
  exact CellRel.mono kp (fun _ _ => rfl) (rel.wf i o e) (rel.cell i o e) fun w q => by rw [upd_ne (rel.nofr ha hi)]; exact q
theorem rel_other {K : PySem.W.Frag} {mg : Str → Option Value} {ρ : Nat → Addr} {s : Sg} {H : Hp} {a : Addr} {u : HO} (rel : Rel K mg ρ s H) (ha : H a = none) : Nx K mg ρ s H ρ s (upd H a u) := by
  have kp : Keep K H (upd H a u) := Keep.new ha
  refine ⟨⟨fun i o e => ?_, rel.inj, rel.wf⟩, kp, fun _ _ => rfl, Nat.le_refl _, fun n kvs e => ⟨e, fun o ws q => by
    rw [upd_ne (rel.nofr ha (List.getElem?_eq_some_iff.mp e).1)]
    exact q⟩⟩
  have hi : i < s.g.length := (List.getElem?_eq_some_iff.mp e).1
  exact CellRel.mono kp (fun _ _ => rfl) (rel.wf i o e) (rel.cell i o e) fun w q => by rw [upd_ne (rel.nofr ha hi)]; exact q
/-- a new list -/
theorem rv_lst_new {K : PySem.W.Frag} {mg : Str → Option Value} {ρ : Nat → Addr} {s : Sg} {H : Hp} {vs : List PV} {us : List V} {a : Addr} (rel : Rel K mg ρ s H) (ha : H a = none) (hb : vs.all (PV.bd s.g.length) = true) (hr : RVs K mg H ρ vs us) :
    Nx K mg ρ s H (rput ρ s.g.length a) (s.push (.lst vs)) (upd H a (.lst us)) :=
  rel.push ha hb ⟨us, upd_same, RVs.mono (Keep.new ha) (fun _ _ => rfl) hr hb⟩
theorem bd_ref_new {s : Sg} {o : PO} : (PV.ref s.g.length).bd (s.push o).g.length = true := by
  rw [PV.bd]
  refine decide_eq_true ?_
  show s.g.length < (s.g ++ [o]).length
  simp
theorem rv_ref_new {K : PySem.W.Frag} {mg : Str → Option Value} {ρ : Nat → Addr} {n : Nat} {a : Addr} {H : Hp} : RV K mg H (rput ρ n a) (.ref n) (.ref a) := by
  have q := RV.ref (K := K) (mg := mg) (H := H) (ρ := rput ρ n a) n
  rw [rput_eq] at q
  exact q
theorem sim_tup {es : List Expr} {mr : ML} {k : Nat} (h : SimA X W φ mr es) : Sim X W φ (mTup mr) (.Tuple es k pos) := by
  refine Sim.mk1 (PE.imp (pe_tup h.pa) fun σ H Q q => ?_) (fun _ => rfl) fun p s => (h.gd p s).bind fun v s' _ => ?_
  · obtain ⟨ρ, p, s, rel, sr, q⟩ := q
    refine tA_seq rel sr q fun w s2 ρ2 H2 us e2 n2 b2 r2 sr2 h2 => ?_
    by_cases hl : w.length ≤ sizeLine
    · rw [if_pos hl] at h2
      refine ⟨by rw [← r2.length]; exact hl, fun a ha => ?_⟩
      obtain ⟨n3, r3⟩ := rv_tup_new n2.rel ha b2 r2
      exact post_ok h2 n3 (by rw [bd_tup]; exact b2) r3
    · rw [if_neg hl] at h2
      exact h2.elim
  · split
    · exact Gd.refl _
    · trivial
theorem sim_lst {es : List Expr} {mr : ML} (h : SimA X W φ mr es) : Sim X W φ (mLst mr) (.List es pos) := by
  refine Sim.mk1 (PE.imp (pe_lst h.pa) fun σ H Q q => ?_) (fun _ => rfl) fun p s => (h.gd p s).bind fun v s' _ => ?_
  · obtain ⟨ρ, p, s, rel, sr, q⟩ := q
    refine tA_seq rel sr q fun w s2 ρ2 H2 us e2 n2 b2 r2 sr2 h2 => ?_
    by_cases hl : w.length ≤ sizeLine
    · rw [if_pos hl] at h2
      refine ⟨by rw [← r2.length]; exact hl, fun a ha => ?_⟩
      exact post_ok h2 (rv_lst_new n2.rel ha b2 r2) bd_ref_new rv_ref_new
    · rw [if_neg hl] at h2
      exact h2.elim
  · split
    · exact Gd.push _ _
    · trivial
end
end Bi

end
section
set_option Elab.async false
set_option linter.all false
set_option autoImplicit false
set_option maxRecDepth 100000
set_option maxHeartbeats 1000000
/-! Bi2: what operators do with values. -/
namespace Bi
open PySem L2
section
variable {X : Cx}
theorem ix_dict (hu : X.A.units + 1 < cLine) : IxR X (fun x y H Q => ∃ a v, x = .ref a ∧ DGet H a y (some v) ∧ Q v H) := by
  intro value slice pins s σ H x y v u Q I rx ry h hs
  obtain ⟨a, z, rfl, g, q⟩ := h
  obtain rfl : v = Value.ref a := rx
  exact PyProof.Rows.tail_any (dict_typeIs I g) PySem.F.slot_dict_getitem.lookup (d_getItem hu I g ry fun w' s3 I3 rw' => ⟨z, H, I3, rw', q⟩) hs
theorem op_inDict (hu : X.A.units + 1 < cLine) : OpR X (compareOp .In) (fun y x H Q => ∃ a o, x = .ref a ∧ DGet H a y o ∧ Q (.bl o.isSome) H) := by
  intro pins s σ H y x iv u Q I ry rx h
  obtain ⟨a, ov, rfl, g, q⟩ := h
  obtain rfl : u = Value.ref a := rx
  exact d_in hu I g ry fun s3 I3 => ⟨.bl ov.isSome, H, I3, rfl, q⟩
theorem op_notInDict (hu : X.A.units + 1 < cLine) : OpR X (compareOp .NotIn) (fun y x H Q => ∃ a o, x = .ref a ∧ DGet H a y o ∧ Q (.bl (!o.isSome)) H) := by
  intro pins s σ H y x iv u Q I ry rx h
  obtain ⟨a, ov, rfl, g, q⟩ := h
  obtain rfl : u = Value.ref a := rx
  exact d_notIn hu I g ry fun s3 I3 => ⟨.bl (!ov.isSome), H, I3, rfl, q⟩
theorem set_dict (hu : X.A.units + 1 < cLine) : PSet X (fun o i v H Q => ∃ a H', o = .ref a ∧ DPut H a i v H' ∧ Q H') := by
  intro pins s σ H o i v ov iv u Q I ro ri rv h
  obtain ⟨a, H', rfl, g, q⟩ := h
  obtain rfl : ov = Value.ref a := ro
  exact d_setItem hu I g ri rv fun s4 I4 => ⟨H', I4, q⟩
theorem PSet.or {t t' : TSet} (h : PSet X t) (h' : PSet X t') : PSet X (fun o i v H Q => t o i v H Q ∨ t' o i v H Q) := fun pins s σ H o i v ov iv u Q I ro ri rv q => by
  rcases q with q | q
  · exact h pins s σ H o i v ov iv u Q I ro ri rv q
  · exact h' pins s σ H o i v ov iv u Q I ro ri rv q
end

/-! ### data -/
/-- a value as data, to a depth -/
def toD (s : Sg) : Nat → PV → Option PyData
  | _ + 1, .non => some .none
  | _ + 1, .bl b => some (.bool b)
  | _ + 1, .int i => some (.int i)
  | _ + 1, .str x => some (.str x)
  | k + 1, .tup xs => (xs.mapM (toD s k)).map .tuple
  | k + 1, .lsq xs => (xs.mapM (toD s k)).map .list
  | k + 1, .ref n => match s.g[n]? with
    | some (.lst xs) => (xs.mapM (toD s k)).map .list
    | _ => none
  | _, _ => none
theorem mapM_cons {α β : Type} {f : α → Option β} {x : α} {xs : List α} {r : List β} (h : (x :: xs).mapM f = some r) : ∃ y ys, f x = some y ∧ xs.mapM f = some ys ∧ r = y :: ys := by
  rw [List.mapM_cons] at h
  cases e : f x with
  | none => rw [e] at h; cases h
  | some y =>
    rw [e] at h
    cases e2 : xs.mapM f with
    | none => rw [e2] at h; cases h
    | some ys =>
      rw [e2] at h
      cases h
      exact ⟨y, ys, rfl, rfl, rfl⟩
section
variable {K : PySem.W.Frag} {mg : Str → Option Value} {H : Hp} {ρ : Nat → Addr} {s : Sg}
theorem dpAll_of {k : Nat} (ih : ∀ (v : PV) (u : V) (d : PyData), toD s k v = some d → RV K mg H ρ v u → Dp K H u d) : ∀ (xs : List PV) (us : List V) (ds : List PyData), xs.mapM (toD s k) = some ds → RVs K mg H ρ xs us → DpAll K H us ds
  | [], us, ds, e, r => by
    cases r
    have : ds = [] := by
      have e' : some ([] : List PyData) = some ds := by simpa using e
      exact (Option.some.inj e').symm
    subst this
    exact .nil
  | x :: xs, us, ds, e, r => by
    obtain ⟨y, ys, e1, e2, rfl⟩ := mapM_cons e
    cases r with
    | cons h t => exact .cons (ih x _ y e1 h) (dpAll_of ih xs _ ys e2 t)
theorem dp_of (rel : Rel K mg ρ s H) : ∀ (k : Nat) (v : PV) (u : V) (d : PyData), toD s k v = some d → RV K mg H ρ v u → Dp K H u d := by
  intro k
  induction k with
  | zero => intro v u d e _; cases v <;> (unfold toD at e; cases e)
  | succ k ih =>
    intro v u d e r
    cases v with
    | non => cases r; unfold toD at e; cases e; exact .non
    | bl b => cases r; unfold toD at e; cases e; exact .bl b
    | int b => cases r; unfold toD at e; cases e; exact .int b
    | str b => cases r; unfold toD at e; cases e; exact .str b
    | ty n => unfold toD at e; cases e
    | glob n => unfold toD at e; cases e
    | exc C x => unfold toD at e; cases e
    | tup xs =>
      unfold toD at e
      obtain ⟨a, vs, rfl, q, rs⟩ := RV.tup_iff.mp r
      cases e2 : xs.mapM (toD s k) with
      | none => rw [e2] at e; cases e
      | some ds => rw [e2] at e; cases e; exact .tup q (dpAll_of ih xs vs ds e2 rs)
    | lsq xs =>
      unfold toD at e
      obtain ⟨a, vs, rfl, q, rs⟩ := RV.lsq_iff.mp r
      cases e2 : xs.mapM (toD s k) with
      | none => rw [e2] at e; cases e
      | some ds => rw [e2] at e; cases e; exact .lst q.sq (dpAll_of ih xs vs ds e2 rs)
    | ref n =>
      unfold toD at e
      cases r
      cases e1 : s.g[n]? with
      | none => rw [e1] at e; cases e
      | some o =>
        rw [e1] at e
        cases o with
        | lst xs =>
          obtain ⟨vs, q, rs⟩ := rel.cell n _ e1
          have e' : (xs.mapM (toD s k)).map PyData.list = some d := e
          cases e2 : xs.mapM (toD s k) with
          | none => rw [e2] at e'; cases e'
          | some ds => rw [e2] at e'; cases e'; exact .lst (SqL.of q) (dpAll_of ih xs vs ds e2 rs)
        | _ => cases e
end
def dD : Nat := 60
/-- a == b of data -/
def eqP (s : Sg) (a b : PV) : Option Bool := match toD s dD a, toD s dD b with
  | some d, some e => if SeqAt.shaped d && SeqAt.shaped e then some (PyData.eqv d e) else none
  | _, _ => none
def vEq : PV → PV → Sg → R PV := fun a b s => match eqP s a b with | some t => .ok (.bl t) s | none => .bad
def vNe : PV → PV → Sg → R PV := fun a b s => match eqP s a b with | some t => .ok (.bl (!t)) s | none => .bad
section
variable {K : PySem.W.Frag} {mg : Str → Option Value}
theorem eqP_dp {H : Hp} {ρ : Nat → Addr} {s : Sg} {a b : PV} {x y : V} {t : Bool} (rel : Rel K mg ρ s H) (e : eqP s a b = some t) (ra : RV K mg H ρ a x) (rb : RV K mg H ρ b y) :
    ∃ d d', Dp K H x d ∧ Dp K H y d' ∧ SeqAt.shaped d = true ∧ SeqAt.shaped d' = true ∧ t = PyData.eqv d d' := by
  unfold eqP at e
  cases e1 : toD s dD a with
  | none => rw [e1] at e; cases e
  | some d =>
    cases e2 : toD s dD b with
    | none => rw [e1, e2] at e; cases e
    | some d' =>
      rw [e1, e2] at e
      have e' : (if (SeqAt.shaped d && SeqAt.shaped d') = true then some (PyData.eqv d d') else none) = some t := e
      by_cases hs : (SeqAt.shaped d && SeqAt.shaped d') = true
      · rw [if_pos hs] at e'
        obtain ⟨h1, h2⟩ := Bool.and_eq_true_iff.mp hs
        exact ⟨d, d', dp_of rel _ _ _ _ e1 ra, dp_of rel _ _ _ _ e2 rb, h1, h2, (Option.some.inj e').symm⟩
      · rw [if_neg hs] at e'
        cases e'
theorem vr_eq : VR2 K mg vEq (rEqD K) where
  run := fun W ρ s H σ a b x y Q rel ba bb ra rb h => by
    unfold vEq at h
    cases e : eqP s a b with
    | none => rw [e] at h; exact h.elim
    | some t =>
      rw [e] at h
      obtain ⟨d, d', h1, h2, h3, h4, rfl⟩ := eqP_dp rel e ra rb
      exact ⟨d, d', h1, h2, h3, h4, post_ok h (Nx.refl rel) (by rw [PV.bd]) (.bl _)⟩
  gd := fun a b s => by
    unfold vEq
    split
    · exact Gd.refl s
    · trivial
theorem vr_ne : VR2 K mg vNe (rNeD K) where
  run := fun W ρ s H σ a b x y Q rel ba bb ra rb h => by
    unfold vNe at h
    cases e : eqP s a b with
    | none => rw [e] at h; exact h.elim
    | some t =>
      rw [e] at h
      obtain ⟨d, d', h1, h2, h3, h4, rfl⟩ := eqP_dp rel e ra rb
      exact ⟨d, d', h1, h2, h3, h4, post_ok h (Nx.refl rel) (by rw [PV.bd]) (.bl _)⟩
  gd := fun a b s => by
    unfold vNe
    split
    · exact Gd.refl s
    · trivial

/-! ### numbers, texts, lists and tuples joined -/
def vI2 (f : Int → Int → PV) : PV → PV → Sg → R PV
  | .int a, .int b, s => .ok (f a b) s
  | _, _, _ => .bad
theorem vI2_gd (f : Int → Int → PV) (a b : PV) (s : Sg) : GdR s (vI2 f a b s) := by
  unfold vI2
  split
  · exact Gd.refl s
  · trivial
/-- two ints, a flat answer -/
theorem vr_i2 {f : Int → Int → PV} {g : Int → Int → V} (hf : ∀ i j, flatP (f i j) = some (g i j)) : VR2 K mg (vI2 f) (rI0 g) where
  run := fun W ρ s H σ a b x y Q rel ba bb ra rb h => by
    cases a with
    | int i =>
      cases b with
      | int j =>
        cases ra; cases rb
        exact ⟨i, j, rfl, rfl, post_ok h (Nx.refl rel) (bd_flat (hf i j)) (rv_flat (hf i j))⟩
      | _ => exact h.elim
    | _ => exact h.elim
  gd := vI2_gd f
/-- .. where a condition is asked -/
def vI2c (C : Int → Int → Bool) (f : Int → Int → PV) : PV → PV → Sg → R PV
  | .int a, .int b, s => if C a b then .ok (f a b) s else .bad
  | _, _, _ => .bad
theorem vI2c_gd (C : Int → Int → Bool) (f : Int → Int → PV) (a b : PV) (s : Sg) : GdR s (vI2c C f a b s) := by
  unfold vI2c
  split
  · split
    · exact Gd.refl s
    · trivial
  · trivial
theorem vr_i2c {C : Int → Int → Bool} {D : Int → Int → Prop} {f : Int → Int → PV} {g : Int → Int → V} (hC : ∀ i j, C i j = true → D i j) (hf : ∀ i j, flatP (f i j) = some (g i j)) : VR2 K mg (vI2c C f) (rI D g) where
  run := fun W ρ s H σ a b x y Q rel ba bb ra rb h => by
    cases a with
    | int i =>
      cases b with
      | int j =>
        cases ra; cases rb
        have h1 : PostE K mg W ρ s H σ Q (if C i j then .ok (f i j) s else .bad) := h
        by_cases hc : C i j = true
        · rw [if_pos hc] at h1
          exact ⟨i, j, rfl, rfl, hC i j hc, post_ok h1 (Nx.refl rel) (bd_flat (hf i j)) (rv_flat (hf i j))⟩
        · rw [if_neg hc] at h1
          exact h1.elim
      | _ => exact h.elim
    | _ => exact h.elim
  gd := vI2c_gd C f
def rOr (r r' : R2) : R2 := fun x y H Q => r x y H Q ∨ r' x y H Q
/-- + -/
def vAdd : PV → PV → Sg → R PV
  | .int a, .int b, s => .ok (.int (a + b)) s
  | .str a, .str b, s => if a.length + b.length ≤ sizeLine then .ok (.str (a ++ b)) s else .bad
  | .tup a, .tup b, s => if a.length + b.length ≤ sizeLine then .ok (.tup (a ++ b)) s else .bad
  | .ref i, .ref j, s => match s.g[i]?, s.g[j]? with
    | some (.lst a), some (.lst b) => if a.length + b.length ≤ sizeLine then .ok (.ref s.g.length) (s.push (.lst (a ++ b))) else .bad
    | _, _ => .bad
  | _, _, _ => .bad
abbrev rAddS : R2 := fun x y H Q => ∃ i j, x = .str i ∧ y = .str j ∧ i.length + j.length ≤ sizeLine ∧ Q (.str (i ++ j)) H
abbrev rAdd4 (K : PySem.W.Frag) : R2 := fun x y H Q => rI0 (fun i j => .int (i + j)) x y H Q ∨ (rAddS x y H Q ∨ (rCat x y H Q ∨ rCatA K x y H Q))
theorem all_append {xs ys : List PV} {n : Nat} (h : xs.all (PV.bd n) = true) (k : ys.all (PV.bd n) = true) : (xs ++ ys).all (PV.bd n) = true := by rw [List.all_append, h, k]; rfl
theorem lst_bd {ρ : Nat → Addr} {s : Sg} {H : Hp} (rel : Rel K mg ρ s H) {i : Nat} {xs : List PV} (e : s.g[i]? = some (.lst xs)) : xs.all (PV.bd s.g.length) = true := rel.wf i _ e
theorem vr_add : VR2 K mg vAdd (rAdd4 K) where
  run := fun W ρ s H σ a b x y Q rel ba bb ra rb h => by
    cases a with
    | int i =>
      cases b with
      | int j => cases ra; cases rb; exact .inl ⟨i, j, rfl, rfl, post_ok h (Nx.refl rel) (by rw [PV.bd]) (.int _)⟩
      | _ => exact h.elim
    | str i =>
      cases b with
      | str j =>
        cases ra; cases rb
        have h1 : PostE K mg W ρ s H σ Q (if i.length + j.length ≤ sizeLine then .ok (.str (i ++ j)) s else .bad) := h
        by_cases hc : i.length + j.length ≤ sizeLine
        · rw [if_pos hc] at h1
          exact .inr (.inl ⟨i, j, rfl, rfl, hc, post_ok h1 (Nx.refl rel) (by rw [PV.bd]) (.str _)⟩)
        · rw [if_neg hc] at h1; exact h1.elim
      | _ => exact h.elim
    | tup i =>
      cases b with
      | tup j =>
        have h1 : PostE K mg W ρ s H σ Q (if i.length + j.length ≤ sizeLine then .ok (.tup (i ++ j)) s else .bad) := h
        by_cases hc : i.length + j.length ≤ sizeLine
        · rw [if_pos hc] at h1
          obtain ⟨a, us, rfl, qa, rsa⟩ := RV.tup_iff.mp ra
          obtain ⟨b, ws, rfl, qb, rsb⟩ := RV.tup_iff.mp rb
          rw [bd_tup] at ba bb
          refine .inr (.inr (.inr ⟨a, b, us, ws, rfl, rfl, qa, qb, by rw [← rsa.length, ← rsb.length]; exact hc, fun e => ?_, fun e1 e2 => ?_, fun e1 e2 p hp => ?_⟩))
          · subst e
            cases rsa
            exact post_ok h1 (Nx.refl rel) (by rw [bd_tup]; exact bb) rb
          · subst e2
            cases rsb
            exact post_ok h1 (Nx.refl rel) (by rw [bd_tup, List.append_nil]; exact ba) (by rw [List.append_nil]; exact ra)
          · obtain ⟨n, r⟩ := rv_tup_new rel hp (all_append ba bb) (paired_append rsa rsb)
            exact post_ok h1 n (by rw [bd_tup]; exact all_append ba bb) r
        · rw [if_neg hc] at h1; exact h1.elim
      | _ => exact h.elim
    | ref i =>
      cases b with
      | ref j =>
        cases ra; cases rb
        unfold vAdd at h
        simp only at h
        cases e1 : s.g[i]? with
        | none => rw [e1] at h; exact h.elim
        | some o =>
          cases e2 : s.g[j]? with
          | none => rw [e1, e2] at h; cases o <;> exact h.elim
          | some o' =>
            rw [e1, e2] at h
            cases o with
            | lst xs =>
              cases o' with
              | lst ys =>
                have h1 : PostE K mg W ρ s H σ Q (if xs.length + ys.length ≤ sizeLine then .ok (.ref s.g.length) (s.push (.lst (xs ++ ys))) else .bad) := h
                by_cases hc : xs.length + ys.length ≤ sizeLine
                · rw [if_pos hc] at h1
                  obtain ⟨us, q1, r1⟩ := rel.cell i _ e1
                  obtain ⟨ws, q2, r2⟩ := rel.cell j _ e2
                  refine .inr (.inr (.inl ⟨ρ i, ρ j, us, ws, rfl, rfl, q1, q2, by rw [← r1.length, ← r2.length]; exact hc, fun p hp => ?_⟩))
                  exact post_ok h1 (rv_lst_new rel hp (all_append (lst_bd rel e1) (lst_bd rel e2)) (paired_append r1 r2)) bd_ref_new rv_ref_new
                · rw [if_neg hc] at h1; exact h1.elim
              | _ => exact h.elim
            | _ => cases o' <;> exact h.elim
      | _ => exact h.elim
    | _ => exact h.elim
  gd := fun a b s => by
    unfold vAdd
    split
    · exact Gd.refl s
    · split
      · exact Gd.refl s
      · trivial
    · split
      · exact Gd.refl s
      · trivial
    · split
      · split
        · exact Gd.push _ _
        · trivial
      · trivial
    · trivial
theorem opr_add {X : Cx} : OpR X (binaryOp .Add) (rAdd4 X.K) := OpR.or op_add (OpR.or op_add_str (OpR.or op_cat op_catA))

/-! ### items -/
def keyOf : PV → Option Key
  | .int i => some (.inl i)
  | .str x => some (.inr x)
  | _ => none
def dGet {κ α : Type} [DecidableEq κ] (kvs : List (κ × α)) (k : κ) : Option α := (kvs.find? fun kv => decide (kv.1 = k)).map (·.2)
def dPut {κ α : Type} [DecidableEq κ] (kvs : List (κ × α)) (k : κ) (v : α) : List (κ × α) :=
  if (kvs.any fun kv => decide (kv.1 = k)) = true then kvs.map (fun kv => if kv.1 = k then (kv.1, v) else kv) else kvs ++ [(k, v)]
def opt (o : Option PV) (s : Sg) : R PV := match o with | some v => .ok v s | none => .bad
def vIx : PV → PV → Sg → R PV
  | .tup xs, .int i, s => opt (atI xs i) s
  | .lsq xs, .int i, s => opt (atI xs i) s
  | .str z, .int i, s => if z.length ≤ sizeLine then opt ((atI z.cps.toList i).map fun c => .str ⟨#[c]⟩) s else .bad
  | .ref n, k, s => match s.g[n]? with
    | some (.lst xs) => (match k with | .int i => opt (atI xs i) s | _ => .bad)
    | some (.dic kvs _) => (match keyOf k with | some k => opt (dGet kvs k) s | none => .bad)
    | _ => .bad
  | _, _, _ => .bad
theorem opt_gd (o : Option PV) (s : Sg) : GdR s (opt o s) := by
  unfold opt
  split
  · exact Gd.refl s
  · trivial
theorem keyOf_rv {H : Hp} {ρ : Nat → Addr} {k : PV} {y : V} {q : Key} (e : keyOf k = some q) (r : RV K mg H ρ k y) : y = kV q := by
  cases k with
  | int i => cases e; cases r; rfl
  | str i => cases e; cases r; rfl
  | _ => cases e
theorem dGet_rv {κ : Type} [DecidableEq κ] {H : Hp} {ρ : Nat → Addr} (k : κ) : ∀ {kvs : List (κ × PV)} {ws : List (κ × V)}, RKs K mg H ρ kvs ws → ∀ v, dGet kvs k = some v → ∃ u, valV ws k = some u ∧ RV K mg H ρ v u ∧ ∃ q ∈ kvs, q.2 = v
  | _, _, .nil, v, e => by cases e
  | _, _, .cons (a := a) (b := b) (l₁ := l) h t, v, e => by
    unfold dGet at e
    unfold valV
    rw [List.find?_cons] at e ⊢
    rw [← h.1]
    by_cases hk : a.1 = k
    · rw [decide_eq_true hk] at e ⊢
      have ev : a.2 = v := Option.some.inj e
      exact ⟨b.2, rfl, by rw [← ev]; exact h.2, a, List.mem_cons_self .., ev⟩
    · rw [decide_eq_false hk] at e ⊢
      obtain ⟨u, h1, h2, q, h3, h4⟩ := dGet_rv k t v e
      exact ⟨u, h1, h2, q, List.mem_cons_of_mem _ h3, h4⟩
theorem dGet_none {κ : Type} [DecidableEq κ] {H : Hp} {ρ : Nat → Addr} (k : κ) : ∀ {kvs : List (κ × PV)} {ws : List (κ × V)}, RKs K mg H ρ kvs ws → (valV ws k).isSome = (dGet kvs k).isSome
  | _, _, .nil => rfl
  | _, _, .cons (a := a) (b := b) (l₁ := l) h t => by
    unfold dGet valV
    rw [List.find?_cons, List.find?_cons, ← h.1]
    by_cases hk : a.1 = k
    · rw [decide_eq_true hk]; rfl
    · rw [decide_eq_false hk]
      exact dGet_none k t
theorem atI_rv {H : Hp} {ρ : Nat → Addr} {xs : List PV} {us : List V} {i : Int} {v : PV} (r : RVs K mg H ρ xs us) (e : atI xs i = some v) : ∃ u, atI us i = some u ∧ RV K mg H ρ v u ∧ v ∈ xs := by
  unfold atI at e ⊢
  rw [← r.length]
  cases h : ixN xs.length i with
  | none => rw [h] at e; cases e
  | some j =>
    rw [h] at e
    have e' : xs[j]? = some v := e
    obtain ⟨u, h1, h2⟩ := paired_some r e'
    exact ⟨u, h1, h2, List.mem_of_getElem? e'⟩
abbrev rIx5 (K : PySem.W.Frag) : R2 := fun x y H Q => rIx K x y H Q ∨ ∃ a v, x = .ref a ∧ DGet H a y (some v) ∧ Q v H
theorem dic_of {ρ : Nat → Addr} {s : Sg} {H : Hp} (rel : Rel K mg ρ s H) {n : Nat} {kvs : List (Key × PV)} {lk : Bool} (e : s.g[n]? = some (.dic kvs lk)) : ∃ ws, Rd H (ρ n) (.dK ws) ∧ RKs K mg H ρ kvs ws := by
  cases lk with
  | false => obtain ⟨ws, q, r⟩ := rel.cell n _ e; exact ⟨ws, .inl q, r⟩
  | true => obtain ⟨o, ws, q, r⟩ := rel.cell n _ e; exact ⟨ws, .inr ⟨o, q⟩, r⟩
theorem vr_ix : VR2 K mg vIx (rIx5 K) where
  run := fun W ρ s H σ a b x y Q rel ba bb ra rb h => by
    have seq : ∀ (xs : List PV) (us : List V) (i : Int), PostE K mg W ρ s H σ Q (opt (atI xs i) s) → RVs K mg H ρ xs us → xs.all (PV.bd s.g.length) = true → ∃ u, atI us i = some u ∧ Q u H := fun xs us i h r hb => by
      unfold opt at h
      cases e : atI xs i with
      | none => rw [e] at h; exact h.elim
      | some v =>
        rw [e] at h
        obtain ⟨u, h1, h2, h3⟩ := atI_rv r e
        exact ⟨u, h1, post_ok h (Nx.refl rel) (List.all_eq_true.mp hb v h3) h2⟩
    cases a with
    | tup xs =>
      cases b with
      | int i =>
        obtain ⟨a, us, rfl, qa, rsa⟩ := RV.tup_iff.mp ra
        cases rb
        rw [bd_tup] at ba
        obtain ⟨u, h1, h2⟩ := seq xs us i h rsa ba
        exact .inl (.inr (.inl ⟨a, us, i, u, rfl, rfl, qa, h1, h2⟩))
      | _ => exact h.elim
    | lsq xs =>
      cases b with
      | int i =>
        obtain ⟨a, us, rfl, qa, rsa⟩ := RV.lsq_iff.mp ra
        cases rb
        rw [bd_lsq] at ba
        obtain ⟨u, h1, h2⟩ := seq xs us i h rsa ba
        exact .inl (.inl ⟨a, us, i, u, rfl, rfl, qa.sq, h1, h2⟩)
      | _ => exact h.elim
    | str z =>
      cases b with
      | int i =>
        cases ra; cases rb
        have h1 : PostE K mg W ρ s H σ Q (if z.length ≤ sizeLine then opt ((atI z.cps.toList i).map fun c => .str ⟨#[c]⟩) s else .bad) := h
        by_cases hz : z.length ≤ sizeLine
        · rw [if_pos hz] at h1
          unfold opt at h1
          cases e : atI z.cps.toList i with
          | none => rw [e] at h1; exact h1.elim
          | some c =>
            rw [e] at h1
            exact .inl (.inr (.inr ⟨z, i, c, rfl, rfl, hz, e, post_ok h1 (Nx.refl rel) (by rw [PV.bd]) (.str _)⟩))
        · rw [if_neg hz] at h1; exact h1.elim
      | _ => exact h.elim
    | ref n =>
      cases ra
      unfold vIx at h
      simp only at h
      cases e1 : s.g[n]? with
      | none => rw [e1] at h; exact h.elim
      | some o =>
        rw [e1] at h
        cases o with
        | lst xs =>
          cases b with
          | int i =>
            cases rb
            obtain ⟨us, q1, r1⟩ := rel.cell n _ e1
            obtain ⟨u, h1, h2⟩ := seq xs us i h r1 (lst_bd rel e1)
            exact .inl (.inl ⟨ρ n, us, i, u, rfl, rfl, SqL.of q1, h1, h2⟩)
          | _ => exact h.elim
        | dic kvs lk =>
          obtain ⟨ws, q1, r1⟩ := dic_of rel e1
          have h2 : PostE K mg W ρ s H σ Q (match keyOf b with | some k => opt (dGet kvs k) s | none => .bad) := h
          cases e2 : keyOf b with
          | none => rw [e2] at h2; exact h2.elim
          | some k =>
            rw [e2] at h2
            have h3 : PostE K mg W ρ s H σ Q (opt (dGet kvs k) s) := h2
            unfold opt at h3
            cases e3 : dGet kvs k with
            | none => rw [e3] at h3; exact h3.elim
            | some v =>
              rw [e3] at h3
              obtain ⟨u, h5, h6, q, h7, h8⟩ := dGet_rv k r1 v e3
              refine .inr ⟨ρ n, u, rfl, .inl ⟨ws, k, q1, keyOf_rv e2 rb, h5.symm⟩, post_ok h3 (Nx.refl rel) ?_ h6⟩
              rw [← h8]
              exact List.all_eq_true.mp (rel.wf n _ e1) q h7
        | ins C fs => exact h.elim
    | _ => exact h.elim
  gd := fun a b s => by
    unfold vIx
    split
    · exact opt_gd _ _
    · exact opt_gd _ _
    · split
      · exact opt_gd _ _
      · trivial
    · split
      · split
        · exact opt_gd _ _
        · trivial
      · split
        · exact opt_gd _ _
        · trivial
      · trivial
    · trivial
theorem ixr_all {X : Cx} (hu : X.A.units + 1 < cLine) : IxR X (rIx5 X.K) := IxR.or ix_seq (ix_dict hu)

/-! ### is None -/
def vIsN : PV → PV → Sg → R PV
  | .non, .non, s => .ok (.bl true) s
  | _, .non, s => .ok (.bl false) s
  | _, _, _ => .bad
def vNotN : PV → PV → Sg → R PV
  | .non, .non, s => .ok (.bl false) s
  | _, .non, s => .ok (.bl true) s
  | _, _, _ => .bad
theorem non_iff {H : Hp} {ρ : Nat → Addr} {a : PV} {x : V} (r : RV K mg H ρ a x) : (x = .non) ↔ a = .non := by
  constructor
  · intro e
    subst e
    cases r
    rfl
  · intro e
    subst e
    cases r
    rfl
theorem vr_isN : VR2 K mg vIsN (fun x y H Q => y = .non ∧ Q (.bl (decide (x = .non))) H) where
  run := fun W ρ s H σ a b x y Q rel ba bb ra rb h => by
    have nn : ∀ a : PV, b ≠ .non → vIsN a b s = .bad := fun a hb => by cases a <;> cases b <;> first | rfl | exact absurd rfl hb
    by_cases hb : b = .non
    · subst hb
      cases rb
      refine ⟨rfl, ?_⟩
      by_cases ha : a = .non
      · subst ha
        rw [decide_eq_true ((non_iff ra).mpr rfl)]
        exact post_ok h (Nx.refl rel) (by rw [PV.bd]) (.bl _)
      · have e : vIsN a .non s = .ok (.bl false) s := by cases a <;> first | rfl | exact absurd rfl ha
        rw [e] at h
        rw [decide_eq_false fun z => ha ((non_iff ra).mp z)]
        exact post_ok h (Nx.refl rel) (by rw [PV.bd]) (.bl _)
    · rw [nn a hb] at h
      exact h.elim
  gd := fun a b s => by
    unfold vIsN
    split <;> first | exact Gd.refl s | trivial
theorem vr_notN : VR2 K mg vNotN (fun x y H Q => y = .non ∧ Q (.bl (!decide (x = .non))) H) where
  run := fun W ρ s H σ a b x y Q rel ba bb ra rb h => by
    have nn : ∀ a : PV, b ≠ .non → vNotN a b s = .bad := fun a hb => by cases a <;> cases b <;> first | rfl | exact absurd rfl hb
    by_cases hb : b = .non
    · subst hb
      cases rb
      refine ⟨rfl, ?_⟩
      by_cases ha : a = .non
      · subst ha
        rw [decide_eq_true ((non_iff ra).mpr rfl)]
        exact post_ok h (Nx.refl rel) (by rw [PV.bd]) (.bl _)
      · have e : vNotN a .non s = .ok (.bl true) s := by cases a <;> first | rfl | exact absurd rfl ha
        rw [e] at h
        rw [decide_eq_false fun z => ha ((non_iff ra).mp z)]
        exact post_ok h (Nx.refl rel) (by rw [PV.bd]) (.bl _)
    · rw [nn a hb] at h
      exact h.elim
  gd := fun a b s => by
    unfold vNotN
    split <;> first | exact Gd.refl s | trivial

/-! ### in -/
/-- a flat value among flat values -/
def flatIn (x : PV) (xs : List PV) : Option Bool := match flatP x, xs.mapM flatP with
  | some u, some us => if flatV u && us.all flatV then some (inV u us) else none
  | _, _ => none
/-- data among data of a list -/
def deepIn (s : Sg) (x : PV) (xs : List PV) : Option Bool := match toD s dD x, xs.mapM (toD s dD) with
  | some d, some ds => if SeqAt.shaped d && SeqAt.shaped (.list ds) then some (ds.any fun z => PyData.eqv z d) else none
  | _, _ => none
def inP (x y : PV) (s : Sg) : Option Bool := match y with
  | .tup xs => flatIn x xs
  | .str z => (match x with | .str c => (match c.cps.toList with | [n] => some (decide (n ∈ z.cps.toList)) | _ => none) | _ => none)
  | .ref n => (match s.g[n]? with
    | some (.lst xs) => (match flatIn x xs with | some t => some t | none => deepIn s x xs)
    | some (.dic kvs _) => (keyOf x).map fun k => (dGet kvs k).isSome
    | _ => none)
  | _ => none
def vIn (x y : PV) (s : Sg) : R PV := match inP x y s with | some t => .ok (.bl t) s | none => .bad
def vNotIn (x y : PV) (s : Sg) : R PV := match inP x y s with | some t => .ok (.bl (!t)) s | none => .bad
end
end Bi

end
section
set_option Elab.async false
set_option linter.all false
set_option autoImplicit false
set_option maxRecDepth 100000
set_option maxHeartbeats 1000000
/-! Bi3: more operators: in, numbers, comparisons, slices; attributes. -/
namespace Bi
open PySem L2
section
variable {K : PySem.W.Frag} {mg : Str → Option Value} {H : Hp} {ρ : Nat → Addr} {s : Sg}
theorem mapM_flat : ∀ {xs : List PV} {us : List V} {ws : List V}, xs.mapM flatP = some us → RVs K mg H ρ xs ws → us = ws
  | [], us, ws, e, r => by
    cases r
    have e' : some ([] : List V) = some us := by simpa using e
    exact (Option.some.inj e').symm
  | x :: xs, us, ws, e, r => by
    obtain ⟨y, ys, e1, e2, rfl⟩ := mapM_cons e
    cases r with
    | cons h t =>
      rw [mapM_flat e2 t]
      congr 1
      cases x with
      | non => cases e1; cases h; rfl
      | bl b => cases e1; cases h; rfl
      | int b => cases e1; cases h; rfl
      | str b => cases e1; cases h; rfl
      | ty b => cases e1; cases h; rfl
      | _ => cases e1
theorem flat_rv {x : PV} {u w : V} (e : flatP x = some u) (r : RV K mg H ρ x w) : w = u := by
  cases x with
  | non => cases e; cases r; rfl
  | bl b => cases e; cases r; rfl
  | int b => cases e; cases r; rfl
  | str b => cases e; cases r; rfl
  | ty b => cases e; cases r; rfl
  | _ => cases e
theorem flatIn_of {x : PV} {xs : List PV} {w : V} {ws : List V} {t : Bool} (e : flatIn x xs = some t) (r : RV K mg H ρ x w) (rs : RVs K mg H ρ xs ws) : flatV w = true ∧ ws.all flatV = true ∧ t = inV w ws := by
  unfold flatIn at e
  cases e1 : flatP x with
  | none => rw [e1] at e; cases e
  | some u =>
    cases e2 : xs.mapM flatP with
    | none => rw [e1, e2] at e; cases e
    | some us =>
      rw [e1, e2] at e
      have e' : (if (flatV u && us.all flatV) = true then some (inV u us) else none) = some t := e
      have hw := flat_rv e1 r
      have hws := mapM_flat e2 rs
      subst hw hws
      by_cases hc : (flatV w && us.all flatV) = true
      · rw [if_pos hc] at e'
        obtain ⟨h1, h2⟩ := Bool.and_eq_true_iff.mp hc
        exact ⟨h1, h2, (Option.some.inj e').symm⟩
      · rw [if_neg hc] at e'
        cases e'
theorem deepIn_of (rel : Rel K mg ρ s H) {x : PV} {xs : List PV} {w : V} {ws : List V} {a : Addr} {t : Bool} (e : deepIn s x xs = some t) (r : RV K mg H ρ x w) (ha : H a = some (.lst ws)) (rs : RVs K mg H ρ xs ws) :
    ∃ d ds, Dp K H w d ∧ Dp K H (.ref a) (.list ds) ∧ SeqAt.shaped d = true ∧ SeqAt.shaped (.list ds) = true ∧ t = (ds.any fun z => PyData.eqv z d) := by
  unfold deepIn at e
  cases e1 : toD s dD x with
  | none => rw [e1] at e; cases e
  | some d =>
    cases e2 : xs.mapM (toD s dD) with
    | none => rw [e1, e2] at e; cases e
    | some ds =>
      rw [e1, e2] at e
      have e' : (if (SeqAt.shaped d && SeqAt.shaped (.list ds)) = true then some (ds.any fun z => PyData.eqv z d) else none) = some t := e
      by_cases hc : (SeqAt.shaped d && SeqAt.shaped (.list ds)) = true
      · rw [if_pos hc] at e'
        obtain ⟨h1, h2⟩ := Bool.and_eq_true_iff.mp hc
        exact ⟨d, ds, dp_of rel _ _ _ _ e1 r, .lst (SqL.of ha) (dpAll_of (fun v u d e r => dp_of rel _ v u d e r) xs ws ds e2 rs), h1, h2, (Option.some.inj e').symm⟩
      · rw [if_neg hc] at e'
        cases e'
end
abbrev rIn4 (K : PySem.W.Frag) : R2 := fun x y H Q => rIn K false x y H Q ∨ (rInD K x y H Q ∨ ((∃ (c : Nat) (z : Str), x = .str ⟨#[c]⟩ ∧ y = .str z ∧ Q (.bl (decide (c ∈ z.cps.toList))) H) ∨ ∃ a o, y = .ref a ∧ DGet H a x o ∧ Q (.bl o.isSome) H))
abbrev rNotIn4 (K : PySem.W.Frag) : R2 := fun x y H Q => rIn K true x y H Q ∨ (rNotInD K x y H Q ∨ ((∃ (c : Nat) (z : Str), x = .str ⟨#[c]⟩ ∧ y = .str z ∧ Q (.bl (!decide (c ∈ z.cps.toList))) H) ∨ ∃ a o, y = .ref a ∧ DGet H a x o ∧ Q (.bl (!o.isSome)) H))
theorem opr_in {X : Cx} (hu : X.A.units + 65 < cLine) : OpR X (compareOp .In) (rIn4 X.K) := OpR.or op_in_seq (OpR.or (op_inD hu) (OpR.or op_in_sign (op_inDict (by omega))))
theorem opr_notIn {X : Cx} (hu : X.A.units + 65 < cLine) : OpR X (compareOp .NotIn) (rNotIn4 X.K) := OpR.or op_notIn_seq (OpR.or (op_notInD hu) (OpR.or op_notIn_sign (op_notInDict (by omega))))
section
variable {K : PySem.W.Frag} {mg : Str → Option Value}
/-- what lies behind an answer of inP -/
theorem inP_of {H : Hp} {ρ : Nat → Addr} {s : Sg} {a b : PV} {x y : V} {t : Bool} (rel : Rel K mg ρ s H) (ra : RV K mg H ρ a x) (rb : RV K mg H ρ b y) (e : inP a b s = some t) :
    (∃ p xs, y = .ref p ∧ (SqL K H p xs ∨ SqT K H p xs) ∧ flatV x = true ∧ xs.all flatV = true ∧ t = inV x xs) ∨ (∃ d ds, Dp K H x d ∧ Dp K H y (.list ds) ∧ SeqAt.shaped d = true ∧ SeqAt.shaped (.list ds) = true ∧ t = (ds.any fun z => PyData.eqv z d)) ∨
      (∃ (c : Nat) (z : Str), x = .str ⟨#[c]⟩ ∧ y = .str z ∧ t = decide (c ∈ z.cps.toList)) ∨ ∃ p o, y = .ref p ∧ DGet H p x o ∧ t = o.isSome := by
  cases b with
  | tup xs =>
    obtain ⟨p, us, rfl, q, rs⟩ := RV.tup_iff.mp rb
    obtain ⟨h1, h2, h3⟩ := flatIn_of e ra rs
    exact .inl ⟨p, us, rfl, .inr q, h1, h2, h3⟩
  | str z =>
    cases rb
    unfold inP at e
    cases a with
    | str c =>
      cases ra
      have e' : (match c.cps.toList with | [n] => some (decide (n ∈ z.cps.toList)) | _ => none) = some t := e
      obtain ⟨cps⟩ := c
      cases hc : cps.toList with
      | nil => simp only at e'; rw [hc] at e'; cases e'
      | cons n r =>
        cases r with
        | nil =>
          simp only at e'
          rw [hc] at e'
          have ec : cps = #[n] := by
            have := congrArg List.toArray hc
            simpa using this
          subst ec
          exact .inr (.inr (.inl ⟨n, z, rfl, rfl, (Option.some.inj e').symm⟩))
        | cons m r => simp only at e'; rw [hc] at e'; cases e'
    | _ => cases e
  | ref n =>
    cases rb
    unfold inP at e
    simp only at e
    cases e1 : s.g[n]? with
    | none => rw [e1] at e; cases e
    | some o =>
      rw [e1] at e
      cases o with
      | lst xs =>
        obtain ⟨us, q, rs⟩ := rel.cell n _ e1
        have e' : (match flatIn a xs with | some t => some t | none => deepIn s a xs) = some t := e
        cases e2 : flatIn a xs with
        | some t' =>
          rw [e2] at e'
          cases e'
          obtain ⟨h1, h2, h3⟩ := flatIn_of e2 ra rs
          exact .inl ⟨ρ n, us, rfl, .inl (SqL.of q), h1, h2, h3⟩
        | none =>
          rw [e2] at e'
          obtain ⟨d, ds, h1, h2, h3, h4, h5⟩ := deepIn_of rel e' ra q rs
          exact .inr (.inl ⟨d, ds, h1, h2, h3, h4, h5⟩)
      | dic kvs lk =>
        obtain ⟨ws, q, rs⟩ := dic_of rel e1
        have e' : (keyOf a).map (fun k => (dGet kvs k).isSome) = some t := e
        cases e2 : keyOf a with
        | none => rw [e2] at e'; cases e'
        | some k =>
          rw [e2] at e'
          have e3 : (dGet kvs k).isSome = t := Option.some.inj e'
          refine .inr (.inr (.inr ⟨ρ n, valV ws k, rfl, .inl ⟨ws, k, q, keyOf_rv e2 ra, rfl⟩, ?_⟩))
          rw [dGet_none k rs, e3]
      | ins C fs => cases e
  | _ => cases e
theorem vr_in : VR2 K mg vIn (rIn4 K) where
  run := fun W ρ s H σ a b x y Q rel ba bb ra rb h => by
    unfold vIn at h
    cases e : inP a b s with
    | none => rw [e] at h; exact h.elim
    | some t =>
      rw [e] at h
      have q := post_ok h (Nx.refl rel) (by rw [PV.bd]) (.bl t)
      rcases inP_of rel ra rb e with ⟨p, xs, h1, h2, h3, h4, h5⟩ | ⟨d, ds, h1, h2, h3, h4, h5⟩ | ⟨c, z, h1, h2, h3⟩ | ⟨p, o, h1, h2, h3⟩
      · refine .inl ⟨p, xs, h1, h2, h3, h4, ?_⟩
        rw [← h5]
        exact q
      · exact .inr (.inl ⟨d, ds, h1, h2, h3, h4, by rw [← h5]; exact q⟩)
      · exact .inr (.inr (.inl ⟨c, z, h1, h2, by rw [← h3]; exact q⟩))
      · exact .inr (.inr (.inr ⟨p, o, h1, h2, by rw [← h3]; exact q⟩))
  gd := fun a b s => by
    unfold vIn
    split
    · exact Gd.refl s
    · trivial
theorem vr_notIn : VR2 K mg vNotIn (rNotIn4 K) where
  run := fun W ρ s H σ a b x y Q rel ba bb ra rb h => by
    unfold vNotIn at h
    cases e : inP a b s with
    | none => rw [e] at h; exact h.elim
    | some t =>
      rw [e] at h
      have q := post_ok h (Nx.refl rel) (by rw [PV.bd]) (.bl (!t))
      rcases inP_of rel ra rb e with ⟨p, xs, h1, h2, h3, h4, h5⟩ | ⟨d, ds, h1, h2, h3, h4, h5⟩ | ⟨c, z, h1, h2, h3⟩ | ⟨p, o, h1, h2, h3⟩
      · refine .inl ⟨p, xs, h1, h2, h3, h4, ?_⟩
        rw [← h5]
        exact q
      · exact .inr (.inl ⟨d, ds, h1, h2, h3, h4, by rw [← h5]; exact q⟩)
      · exact .inr (.inr (.inl ⟨c, z, h1, h2, by rw [← h3]; exact q⟩))
      · exact .inr (.inr (.inr ⟨p, o, h1, h2, by rw [← h3]; exact q⟩))
  gd := fun a b s => by
    unfold vNotIn
    split
    · exact Gd.refl s
    · trivial

/-! ### numbers -/
def vSub := vI2 fun i j => .int (i - j)
@[irreducible] def ok255 (i : Int) : Bool := decide (-(2 ^ 255) < i) && decide (i < 2 ^ 255)
@[irreducible] def ok63 (i : Int) : Bool := decide (-(2 ^ 63) ≤ i) && decide (i < 2 ^ 63)
@[irreducible] def okLn (i : Int) : Bool := decide (0 ≤ i) && decide (i < 2 ^ 63)
theorem ok255_of {i : Int} (h : ok255 i = true) : (decide (-(2 ^ 255) < i) && decide (i < 2 ^ 255)) = true := by unfold ok255 at h; exact h
theorem ok63_of {i : Int} (h : ok63 i = true) : (decide (-(2 ^ 63) ≤ i) && decide (i < 2 ^ 63)) = true := by unfold ok63 at h; exact h
theorem okLn_of {i : Int} (h : okLn i = true) : (decide (0 ≤ i) && decide (i < 2 ^ 63)) = true := by unfold okLn at h; exact h
@[irreducible] def cMul (i j : Int) : Bool := (decide (-(2 ^ 64) < i) && decide (i < 2 ^ 64)) || (decide (-(2 ^ 64) < j) && decide (j < 2 ^ 64))
def vMul := vI2c cMul fun i j => .int (i * j)
def vDiv := vI2c (fun _ j => decide (0 < j) && decide (j < 1073741824)) fun i j => .int (i / j)
def vMod := vI2c (fun _ j => decide (0 < j)) fun i j => .int (i % j)
@[irreducible] def cPow (i j : Int) : Bool := decide (0 ≤ j) && (decide (j ≤ 60000) && (decide (-(2 ^ 255) < i) && decide (i < 2 ^ 255)))
def vPow := vI2c cPow fun i j => .int (i ^ j.toNat)
def vLt := vI2 fun i j => .bl (decide (i < j))
def vLe := vI2 fun i j => .bl (decide (i ≤ j))
def vGt := vI2 fun i j => .bl (decide (j < i))
def vGe := vI2 fun i j => .bl (decide (j ≤ i))
theorem vr_sub : VR2 K mg vSub (rI0 fun i j => .int (i - j)) := vr_i2 fun _ _ => rfl
theorem vr_lt : VR2 K mg vLt (rI0 fun i j => .bl (decide (i < j))) := vr_i2 fun _ _ => rfl
theorem vr_le : VR2 K mg vLe (rI0 fun i j => .bl (decide (i ≤ j))) := vr_i2 fun _ _ => rfl
theorem vr_gt : VR2 K mg vGt (rI0 fun i j => .bl (decide (j < i))) := vr_i2 fun _ _ => rfl
theorem vr_ge : VR2 K mg vGe (rI0 fun i j => .bl (decide (j ≤ i))) := vr_i2 fun _ _ => rfl
theorem vr_mul : VR2 K mg vMul (rI CMul fun i j => .int (i * j)) := vr_i2c (fun i j h => by
  unfold cMul at h
  rcases Bool.or_eq_true_iff.mp h with h | h
  · obtain ⟨h1, h2⟩ := Bool.and_eq_true_iff.mp h
    exact .inl ⟨of_decide_eq_true h1, of_decide_eq_true h2⟩
  · obtain ⟨h1, h2⟩ := Bool.and_eq_true_iff.mp h
    exact .inr ⟨of_decide_eq_true h1, of_decide_eq_true h2⟩) fun _ _ => rfl
theorem vr_div : VR2 K mg vDiv (rI CDiv fun i j => .int (i / j)) := vr_i2c (fun i j h => by
  obtain ⟨h1, h2⟩ := Bool.and_eq_true_iff.mp h
  exact ⟨of_decide_eq_true h1, of_decide_eq_true h2⟩) fun _ _ => rfl
theorem vr_mod : VR2 K mg vMod (rI (fun _ j => 0 < j) fun i j => .int (i % j)) := vr_i2c (fun i j h => of_decide_eq_true h) fun _ _ => rfl
end
/-- ** of ints below 2 ^ 255 -/
theorem op_powW {X : Cx} : OpR X (binaryOp .Pow) (rI (fun i j => cPow i j = true) fun i j => .int (i ^ j.toNat)) := opI fun i j _ _ _ _ _ hc q => by
  unfold cPow at hc
  obtain ⟨h1, hc⟩ := Bool.and_eq_true_iff.mp hc
  obtain ⟨h2, hc⟩ := Bool.and_eq_true_iff.mp hc
  obtain ⟨h3, h4⟩ := Bool.and_eq_true_iff.mp hc
  have g1 := of_decide_eq_true h1
  have g2 := of_decide_eq_true h2
  have g3 := of_decide_eq_true h3
  have g4 := of_decide_eq_true h4
  refine PyProof.Rows.pow_int g1 ?_ q
  have hn : i.natAbs < 2 ^ 255 := by
    have e1 : (2 ^ 255 : Int) = ((2 ^ 255 : Nat) : Int) := by norm_cast
    rw [e1] at g3 g4
    omega
  have hb : Builtin.Int.intBits i ≤ 256 := by
    have l := PySem.Flt.log2_lt_of (by decide : 0 < 255) hn
    unfold Builtin.Int.intBits
    split <;> omega
  have hb' : (Builtin.Int.intBits i : Int) ≤ 256 := by omega
  have : (Builtin.Int.intBits i : Int) * j ≤ 256 * 60000 := Int.mul_le_mul hb' g2 g1 (by decide)
  have e2 : (2 ^ 27 : Int) = 134217728 := by decide
  rw [e2]
  omega
section
variable {K : PySem.W.Frag} {mg : Str → Option Value}
theorem vr_pow : VR2 K mg vPow (rI (fun i j => cPow i j = true) fun i j => .int (i ^ j.toNat)) := vr_i2c (fun _ _ h => h) fun _ _ => rfl
def vNeg : PV → Sg → R PV
  | .int i, s => .ok (.int (-i)) s
  | _, _ => .bad
theorem vr_neg : VR1 K mg vNeg (rU fun i => .int (-i)) where
  run := fun W ρ s H σ a x Q rel ba ra h => by
    cases a with
    | int i => cases ra; exact ⟨i, rfl, post_ok h (Nx.refl rel) (by rw [PV.bd]) (.int _)⟩
    | _ => exact h.elim
  gd := fun a s => by
    unfold vNeg
    split
    · exact Gd.refl s
    · trivial

/-! ### slices -/
def cutP {α : Type} (xs : List α) (lo hi : Option Int) : List α := (xs.drop (HT.sIx xs.length 0 lo)).take (HT.sIx xs.length xs.length hi - HT.sIx xs.length 0 lo)
def vSl (v : PV) (lo hi : Option Int) (s : Sg) : R PV := match v with
  | .tup xs => .ok (.tup (cutP xs lo hi)) s
  | .str z => if z.length ≤ sizeLine then .ok (.str (cutS z lo hi)) s else .bad
  | .ref n => (match s.g[n]? with
    | some (.lst xs) => .ok (.ref s.g.length) (s.push (.lst (cutP xs lo hi)))
    | _ => .bad)
  | _ => .bad
abbrev rSl3 (K : PySem.W.Frag) : V → Option Int → Option Int → Hp → VK → Prop := fun x lo hi H Q => rSlL K x lo hi H Q ∨ (rSlA K x lo hi H Q ∨ rSlS x lo hi H Q)
theorem slr_all {X : Cx} : SlR X (rSl3 X.K) := SlR.or sl_list (SlR.or sl_tupA sl_str)
theorem cut_bd {xs : List PV} {n : Nat} {lo hi : Option Int} (h : xs.all (PV.bd n) = true) : (cutP xs lo hi).all (PV.bd n) = true :=
  List.all_eq_true.mpr fun x hx => List.all_eq_true.mp h x (List.mem_of_mem_drop (List.mem_of_mem_take hx))
theorem cut_rvs {H : Hp} {ρ : Nat → Addr} {xs : List PV} {us : List V} {lo hi : Option Int} (h : RVs K mg H ρ xs us) : RVs K mg H ρ (cutP xs lo hi) (cutV us lo hi) := by
  unfold cutP cutV
  rw [h.length]
  exact paired_take _ (paired_drop _ h)
theorem cut_whole {xs : List PV} {lo hi : Option Int} (h : HT.sIx xs.length 0 lo = 0 ∧ HT.sIx xs.length xs.length hi = xs.length) : cutP xs lo hi = xs := by
  unfold cutP
  rw [h.1, h.2, List.drop_zero, Nat.sub_zero, List.take_length]
theorem sl_of {W : WX} {ρ : Nat → Addr} {s : Sg} {H : Hp} {σ : L2.St} {v : PV} {x : V} {lo hi : Option Int} {Q : VK} (rel : Rel K mg ρ s H) (b : v.bd s.g.length = true) (r : RV K mg H ρ v x) (h : PostE K mg W ρ s H σ Q (vSl v lo hi s)) : rSl3 K x lo hi H Q := by
  cases v with
  | tup xs =>
    obtain ⟨a, us, rfl, q, rs⟩ := RV.tup_iff.mp r
    rw [bd_tup] at b
    refine .inr (.inl ⟨a, us, rfl, q, fun hw => ?_, fun _ p hp => ?_⟩)
    · have hw' : HT.sIx xs.length 0 lo = 0 ∧ HT.sIx xs.length xs.length hi = xs.length := by rw [rs.length]; exact hw
      exact post_ok h (Nx.refl rel) (by rw [bd_tup]; exact cut_bd b) (by rw [cut_whole hw']; exact r)
    · obtain ⟨n, r'⟩ := rv_tup_new rel hp (cut_bd (lo := lo) (hi := hi) b) (cut_rvs rs)
      exact post_ok h n (by rw [bd_tup]; exact cut_bd b) r'
  | str z =>
    cases r
    have h1 : PostE K mg W ρ s H σ Q (if z.length ≤ sizeLine then .ok (.str (cutS z lo hi)) s else .bad) := h
    by_cases hz : z.length ≤ sizeLine
    · rw [if_pos hz] at h1
      exact .inr (.inr ⟨z, rfl, hz, post_ok h1 (Nx.refl rel) (by rw [PV.bd]) (.str _)⟩)
    · rw [if_neg hz] at h1
      exact h1.elim
  | ref n =>
    cases r
    unfold vSl at h
    simp only at h
    cases e : s.g[n]? with
    | none => rw [e] at h; exact h.elim
    | some o =>
      rw [e] at h
      cases o with
      | lst xs =>
        obtain ⟨us, q, rs⟩ := rel.cell n _ e
        exact .inl ⟨ρ n, us, rfl, SqL.of q, fun p hp => post_ok h (rv_lst_new rel hp (cut_bd (lst_bd rel e)) (cut_rvs rs)) bd_ref_new rv_ref_new⟩
      | _ => exact h.elim
  | _ => exact h.elim
theorem sl_gd (v : PV) (lo hi : Option Int) (s : Sg) : GdR s (vSl v lo hi s) := by
  unfold vSl
  split
  · exact Gd.refl s
  · split
    · exact Gd.refl s
    · trivial
  · split
    · exact Gd.push _ _
    · trivial
  · trivial
end
/-- a part of a slice -/
def mPart : Option ME → Phi → Sl → Sg → R (Option Int)
  | none, _, _, s => .ok none s
  | some m, φ, p, s => (m φ p s).bind fun v s => match v with | .int i => .ok (some i) s | _ => .bad
def tP (K : PySem.W.Frag) (mg : Str → Option Value) (W : WX) (φ : Phi) (m : Option ME) : TO := fun σ H Q => ∃ ρ p s, Rel K mg ρ s H ∧ SRel K mg ρ s H p σ ∧ Post K mg (fun _ _ _ (a b : Option Int) => a = b) W ρ s H σ Q (mPart m φ p s)
structure SimP (X : Cx) (W : WX) (φ : Phi) (m : Option ME) (e : Option Expr) : Prop where
  po : L2.PO X e (tP X.K X.mg W φ m)
  gd : ∀ p s, GdR s (mPart m φ p s)
theorem poImp {X : Cx} {e : Option Expr} {t t' : TO} (h : L2.PO X e t) (k : ∀ σ H Q, t' σ H Q → t σ H Q) : L2.PO X e t' := ⟨fun pins s σ H Q I q => h.run pins s σ H Q I (k σ H Q q)⟩
section
variable {X : Cx} {W : WX} {φ : Phi} {m ma mb mc : ME} {e a b c : Expr} {pos : Pos}
theorem simp_none : SimP X W φ none none := by
  refine ⟨poImp po_none fun σ H Q h => ?_, fun p s => Gd.refl s⟩
  obtain ⟨ρ, p, s, rel, sr, h⟩ := h
  exact h ρ H none (Nx.refl rel) rfl
theorem simp_some (h : Sim X W φ m e) : SimP X W φ (some m) (some e) := by
  refine ⟨poImp (po_some h.pe) fun σ H Q q => ?_, fun p s => (h.gd p s).bind fun v s' _ => ?_⟩
  · obtain ⟨ρ, p, s, rel, sr, q⟩ := q
    refine tE_seq rel sr q fun v s1 ρ1 H1 u e1 n1 b1 r1 sr1 h1 => ?_
    cases v with
    | int i => cases r1; exact ⟨i, rfl, h1 ρ1 H1 (some i) (Nx.refl n1.rel) rfl⟩
    | _ => exact h1.elim
  · cases v with
    | int i => exact Gd.refl _
    | _ => trivial
def mSl (mv : ME) (lo hi : Option ME) : ME := fun φ p s => (mv φ p s).bind fun v s => (mPart lo φ p s).bind fun l s => (mPart hi φ p s).bind fun h s => vSl v l h s
theorem tP_seq {K : PySem.W.Frag} {mg : Str → Option Value} {H : Hp} {ρ : Nat → Addr} {s : Sg} {p : Sl} {σ : L2.St} {m : Option ME} {β : Type} {α' : Type} {RR : Hp → (Nat → Addr) → Sg → α' → β → Prop} {f : Option Int → Sg → R α'} {Q : β → Hp → Prop} {Q' : Option Int → Hp → Prop} (rel : Rel K mg ρ s H) (sr : SRel K mg ρ s H p σ) (h : Post K mg RR W ρ s H σ Q ((mPart m φ p s).bind f))
    (k : ∀ v s1 ρ1 H1, Nx K mg ρ s H ρ1 s1 H1 → SRel K mg ρ1 s1 H1 p σ → Post K mg RR W ρ1 s1 H1 σ Q (f v s1) → Q' v H1) : tP K mg W φ m σ H Q' := by
  refine ⟨ρ, p, s, rel, sr, ?_⟩
  cases e : mPart m φ p s with
  | ok v s1 =>
    rw [e] at h
    intro ρ1 H1 u n r
    cases r
    exact k v s1 ρ1 H1 n (sr.mono n) (Post.step h n)
  | err C v s1 => rw [e] at h; exact h
  | bad => rw [e] at h; exact h
theorem sim_slice {lo hi : Option Expr} {ml mh : Option ME} {p2 : Pos} (hv : Sim X W φ m e) (hl : SimP X W φ ml lo) (hh : SimP X W φ mh hi) : Sim X W φ (mSl m ml mh) (.Subscript e (.Slice lo hi none p2) pos) := by
  refine Sim.mk1 (PE.imp (pe_slice slr_all hv.pe hl.po hh.po) fun σ H Q h => ?_) (fun _ => rfl) fun p s => (hv.gd p s).bind fun v s1 _ => (hl.gd p s1).bind fun l s2 _ => (hh.gd p s2).bind fun h s3 _ => sl_gd v l h s3
  obtain ⟨ρ, p, s, rel, sr, h⟩ := h
  refine tE_seq rel sr h fun v s1 ρ1 H1 u e1 n1 b1 r1 sr1 h1 => ?_
  refine tP_seq n1.rel sr1 h1 fun l s2 ρ2 H2 n2 sr2 h2 => ?_
  refine tP_seq n2.rel sr2 h2 fun l' s3 ρ3 H3 n3 sr3 h3 => ?_
  exact sl_of n3.rel (n3.bl (n2.bl b1)) (n3.rv (n2.rv r1 b1) (n2.bl b1)) h3
theorem sim_ix (hu : X.A.units + 1 < cLine) (ha : Sim X W φ ma a) (hb : Sim X W φ mb b) (hs : PlainIx b) : Sim X W φ (mBin vIx ma mb) (.Subscript a b pos) :=
  Sim.mk1 (PE.imp (pe_ix (ixr_all hu) ha.pe hb.pe hs) fun σ H Q h => tOp_of vr_ix h) (fun _ => rfl) (mBin_gd ha.gd hb.gd (vr_ix (K := X.K) (mg := X.mg)).gd)

/-! ### fields -/
def vFld (f : Str) : PV → Sg → R PV
  | .ref n, s => match s.g[n]? with
    | some (.ins C fs) => opt (dGet fs f) s
    | _ => .bad
  | _, _ => .bad
theorem lookup_valV {β : Type} (f : Str) : ∀ fs : List (Str × β), fs.lookup f = (fs.find? fun kv => decide (kv.1 = f)).map (·.2)
  | [] => rfl
  | (g, x) :: r => by
    rw [List.lookup, List.find?_cons]
    by_cases h : f = g
    · subst h
      simp
    · have h1 : (f == g) = false := by simpa using h
      have h2 : decide (g = f) = false := decide_eq_false fun z => h z.symm
      rw [h1, h2]
      exact lookup_valV f r
/-- the class's facts for plain fields -/
structure FldOk (X : Cx) (f : Str) : Prop where
  run : ∀ (C : Str) (Ca : Addr), X.mg C = some (.ref Ca) → ∀ (a dx : Addr) (H : Hp) (fs : List (Str × V)), H a = some (.ins Ca dx fs) → ∀ v, fs.lookup f = some v → Cls X.K Ca ∧ NoAttr X.K Ca f
end
end Bi

end
section
set_option Elab.async false
set_option linter.all false
set_option autoImplicit false
set_option maxRecDepth 100000
set_option maxHeartbeats 2000000
/-! BiX1: an own exception over ValueError whose __init__ says super().__init__(value); self.value = value: its promise. -/
namespace L2
open PySem PySem.Spec PyProof.Rows PySem.W PySem.Calls
/-! ### super().__init__ of a ValueError, called -/
section
variable {prog : Program} {w : World} {A : Around} {E : Value → Shared → Prop} {h : Heap} {g : Array GenState} {d : Drawn} {t : Nat} {os : OsState}
variable {nm q : Str} {C N : Addr} {bs bm : List Value} {hdct : Bool} {sn : List Str} {sub : List Value} {ab : Bool} {col : Option Bool} {dd : Option Addr} {k0 k1 k2 k3 k5 : Option Value}
theorem call_mwV {u e t0 : Addr} {rest : List Value} {Q : Value → Shared → Prop}
    (hC : h.get? C = some (excClassObj nm q C N bs bm hdct sn sub ab col dd k0 k1 k2 k3 k5 "ValueError.__new__")) (he : h.get? e = some (HandSPX.excO C t0)) (hu : h.get? u = some (kxs_mw "ValueError.__init__" e)) (hrest : rest.length ≤ sizeLine)
    (hq : ∀ h' t1, (∀ b o, b ≠ e → h.get? b = some o → h'.get? b = some o) → h'.get? e = some (HandSPX.excO C t1) → Q .none ⟨h', g, d, t, os⟩) :
    wpAny (model prog w) A (call (.ref u) rest) Q E ⟨h, g, d, t, os⟩ := by
  refine wpAny_call (codeAny_of_tree ?_)
  show wpAny _ A.in1 (callAny (.ref u) ⟨rest, []⟩) _ _ _
  simp only [callAny]
  refine wpAny_bind (wpAny_load hu ?_)
  simp only [kxs_mw, show (Value.type "method-wrapper" == Value.type "method" || Value.type "method-wrapper" == Value.type "builtin_function_or_method" || Value.type "method-wrapper" == Value.type "method-wrapper") = true by decide, if_true]
  refine W.KFB.if_so (by decide) ?_
  refine wpAny_bind (check_bound_init F.excBase_ValueError.toExcCallFacts hC he rfl ?_)
  refine wpAny_bind (wpAny_pure (wpAny_pure ?_))
  refine ⟨Code.quiet_builtin _ (by decide +kernel), codeAny_builtin F.excBase_ValueError.initEntry ?_⟩
  rw [Around.under_plainId F.excBase_ValueError.init.plain _]
  wp_walk
  refine hq _ h.objs.size (fun b o hb ho => ?_) ?_
  · rw [Heap.get?_update_other _ _ (Ne.symm hb)]
    exact Heap.get?_push_of_some _ ho
  · rw [Heap.get?_update_self _ (Heap.get?_push_of_some _ he) rfl]
    rfl
end
abbrev iniBody (p0 p1 p2 p3 p4 p5 p6 p7 p8 p9 : Pos) : List Stmt :=
  [.Expr (.Call (.Attribute (.Call (.Name "super" p0) [] [] p1) "__init__" p2) [.Name "value" p3] [] p4) p5, .Assign [.Attribute (.Name "self" p6) "value" p7] (.Name "value" p8) p9]
structure IniS (scope : Scope) : Prop where
  kind : scope.kind = .function
  co : scope.isCoroutine = false
  gen : scope.isGenerator = false
  cell : ∀ x ∈ scope.names, x.2 ≠ .cell
  sup : scope.names.lookup ("super" : Str) = some .globalImplicit
  cls : scope.names.lookup ("__class__" : Str) = some .free
  slf : scope.names.lookup ("self" : Str) = some .local
  val : scope.names.lookup ("value" : Str) = some .local
/-- the class at C: over the class at D whose __init__ it is -/
structure IniC (K : PySem.W.Frag) (D C : Addr) : Prop where
  oex : OexC K C
  sub : PySem.W.mroIn K C (.ref D) = some true
  sup : ks_superIn K C D "__init__" = some (some (.builtin "ValueError.__init__"))
  ve : PySem.W.subIn K (.ref C) (.type "ValueError") = some true
  no : PySem.W.findIn K (.ref C) "value" = some none
def spIni (K : PySem.W.Frag) (D : Addr) : Sp := fun vs H Q _ => ∃ (a C : Addr) (y : V), vs = [.ref a, y] ∧ IniC K D C ∧ H a = some (exo a C none) ∧ ∀ d, H d = none → d ≠ a → Q .non (upd (upd H d (exd d [("value", y)])) a (exo a C (some d)))
section
variable {P : Program} {w : World} {K : PySem.W.Frag} {mg : Str → Option Value} {base : Heap} {CX : CXT} {k : Nat} {fI cc cda D : Addr}
variable {nm q : Str} {params : Arguments} {scope : Scope} {dV kV doc pm ct oc ccl cl : Value} {an od cdd cld : Option Addr} {osl ccs csl : Array (Option Value)} {p0 p1 p2 p3 p4 p5 p6 p7 p8 p9 : Pos} {ar : Arg} {vs : Array Value} {file : Str} {tf : Tok} {cdD : ClassData}
theorem sup_call {o : Expr} {env : Env} (hpos : (p2.endLine == p4.line) = true) : eval (.Call (.Attribute o "__init__" p2) [.Name "value" p3] [] p4) env = (do
      let ov ← attributeBase o "__init__" env (eval o env)
      standAt p2.atName
      let (f, first) ← holding [ov] (getMethod ov "__init__" (do return (← importBound o env).getD true))
      callWith p4 f first (backTo p4 (starEach [.Name "value" p3] env)) []) := by
  have e1 : methodCallForm 1 (backTo p4 (starEach [.Name "value" p3] env)) (backToKw p4 (keywordEach [] env)) = true := by rfl
  have e2 : methodCallPos true o env p2 p4 = pure p4 := by
    unfold methodCallPos
    rw [hpos]
    rfl
  show (do
    let ov ← attributeBase o "__init__" env (eval o env)
    standAt p2.atName
    methodCall o "__init__" p2 p4 env ov 1 (backTo p4 (starEach [.Name "value" p3] env)) (backToKw p4 (keywordEach [] env))) = _
  unfold methodCall
  rw [e1]
  simp only [e2, calleeOf, if_true, pure_bind]
  rfl
theorem ini_ok (hpos : (p2.endLine == p4.line) = true) (lk : K.lookup fI = some ⟨oc, od, .func (ksFn nm q params (iniBody p0 p1 p2 p3 p4 p5 p6 p7 p8 p9) scope dV kV doc pm an (.ref cda) ct cc), osl⟩) (hcd : codeIn K (.ref cda) q = true) (S : IniS scope)
    (hp : (params.posonlyargs ++ params.args).head? = some ar) (har : ar.arg = "self") (hcode : K.lookup cda = some ⟨ccl, cdd, .fields vs, ccs⟩) (hvs : vs[2]? = some (.str file tf)) (hfile : ((P.main.file : Str) == file) = true)
    (hcell : K.lookup cc = some ⟨cl, cld, .cell (some (.ref D)), csl⟩) (hD : clsIn K D = some cdD) (hms : mg "super" = none) (htop : (P.main.scope.names.lookup ("super" : Str)).isSome = false) (hop : nsIn K cStatics "thirdparty.any" = some none) :
    FnOk P w K mg base CX k fI (ksFn nm q params (iniBody p0 p1 p2 p3 p4 p5 p6 p7 p8 p9) scope dV kV doc pm an (.ref cda) ct cc) ["self", "value"] (spIni K D) := by
  refine ⟨fun vs H Q E h => ?_, fun A outer s H args us vs' Q E hr e0 hb r h => ?_⟩
  · obtain ⟨a, C, y, rfl, _⟩ := h
    rfl
  obtain ⟨a, C, y, rfl, IC, ea, hq⟩ := h
  cases r with
  | @cons _ u0 _ ur ra r2 =>
  cases r2 with
  | @cons _ v0 _ ur2 rv r3 =>
  cases r3
  obtain rfl : u0 = Value.ref a := ra
  have KX : K.In s.heap := e0.mod.kin.keeps fun b o e => (e0.bs b o e).1
  have lim : s.heap.NoLimit := e0.mod.nolimit.keeps fun b o e => (e0.bs b o e).1
  obtain ⟨nmC, qC, NC, bsC, bmC, snC, subC, abC, colC, ddC, k0, k1, k2, k3, k5, hC, hbm⟩ := IC.oex.cls
  have hcl : clsIn K C = some { name := nmC, bases := bsC, mro := .ref C :: bmC, ns := NC, qualname := qC, hasDict := true, slotNames := snC, subclasses := subC, abstract := abC, collection := colC, hasDel := false } := by
    unfold clsIn; rw [hC]
  obtain ⟨t1, ho⟩ := exo_at e0.hok ea
  refine ks_codeAny_call_defAt (fd := ksFn nm q params (iniBody p0 p1 p2 p3 p4 p5 p6 p7 p8 p9) scope dV kV doc pm an (.ref cda) ct cc) (body := iniBody p0 p1 p2 p3 p4 p5 p6 p7 p8 p9) hr.depth (KX _ _ lk) rfl lim (codeRec_of KX hcd) rfl hb S.cell ?_ (fun h₀ hns kp => ?_) S.co S.gen S.kind
  · intro x hx
    simp at hx
    rcases hx with rfl | rfl
    · exact S.slf
    · exact S.val
  obtain ⟨m, hm, hSelf, hVal⟩ : ∃ m : Str → Option Value, (fun x : Str => ((["self", "value"] : List Str).zip [Value.ref a, v0]).reverse.lookup x) = m ∧ m "self" = some (.ref a) ∧ m "value" = some v0 := ⟨_, rfl, by kernel_rfl, by kernel_rfl⟩
  rw [hm] at hns
  have K0 : K.In h₀ := KX.keeps kp
  have bk0 : ∀ b o, base.get? b = some o → h₀.get? b = some o := fun b o e => kp b o (e0.bs b o e).1
  obtain ⟨mb, hb1, hb2⟩ := e0.mod.blt
  obtain ⟨oD, hD1, hD2⟩ : ∃ oD, h₀.get? D = some oD ∧ oD.data = .cls cdD := by
    unfold clsIn at hD
    split at hD
    · rename_i c d cd' sl ho
      cases hD
      exact ⟨_, K0 _ _ ho, rfl⟩
    · cases hD
  have ho0 := kp _ _ ho
  show _root_.PySem.wpAt _ (A.deeper (ksEnv q scope s.heap.objs.size fI (.ref cda) cc)) (.func (iniBody p0 p1 p2 p3 p4 p5 p6 p7 p8 p9) (ksEnv q scope s.heap.objs.size fI (.ref cda) cc)) (execs (iniBody p0 p1 p2 p3 p4 p5 p6 p7 p8 p9) (ksEnv q scope s.heap.objs.size fI (.ref cda) cc)) _ _ _
  have haL : a ≠ s.heap.objs.size := Nat.ne_of_lt (Heap.lt_size ho)
  have haC : a ≠ C := fun z => by
    have := KX _ _ hC
    rw [← z, ho] at this
    cases this
  obtain ⟨oL, esL, epL, hL, rL⟩ := hns
  have nsk : ∀ h' : Heap, (∀ b o, b ≠ a → h₀.get? b = some o → h'.get? b = some o) → h'.Ns s.heap.objs.size m := fun h' kk => ⟨oL, esL, epL, kk _ _ haL.symm hL, rL⟩
  refine ks_wpAt_execs_cons (ks_wpAt_Expr_any (ks_wpAt_MethodCall ?_ (sup_call hpos)) (by show (scope.kind == .module && _) = false; rw [S.kind]; rfl))
  refine ks_wpAt_super_base (env := ksEnv q scope s.heap.objs.size fI (.ref cda) cc) S.sup S.cls (by decide) rfl (K0 _ _ lk) rfl hp rfl (K0 _ _ hcode) rfl hvs hfile htop ?_
  refine ks_loadName_global S.kind S.sup (Calls.loadGlobal_builtin (env := ksEnv q scope s.heap.objs.size fI (.ref cda) cc) (e0.mod.glob.keeps bk0) hms (hb1.keeps bk0) ((hb2 "super" (by decide)).trans (show bootBuiltins "super" = some (.type "super") by kernel_rfl)) ⟨rfl, ?_⟩)
  refine wpAny_loadName_free S.kind S.cls rfl ⟨_, K0 _ _ hcell, rfl⟩ ?_
  rw [har]
  refine wpAny_loadName_local S.kind S.slf (nsk _ fun _ _ _ e => e) hSelf ?_
  refine ks_wpAny_isType_cls hD1 hD2 ⟨rfl, ?_⟩
  obtain ⟨sh, sg, sd, st, so⟩ := s
  refine ks_wpAny_call_super hD1 hD2 ho0 rfl (fun c e => by cases e) (looks_mroIn K0 IC.sub) (fun h1 e1 k1' => ?_)
  have K1 : K.In h1 := K0.keeps k1'
  have ho1 := k1' _ _ ho0
  have hsup := IC.sup
  unfold ks_superIn at hsup
  rw [hcl] at hsup
  refine kxs_getMethod kxs_ValueError e1 (looks_opaque K1 hop) (l₀ := .ref C :: bmC) ?_ rfl K1 hsup ?_ haC (by decide) ?_
  · exact fun A Q E s k q => wpAny_bind ((looks_clsIn K1 hcl) A _ E s k (wpAny_pure q))
  · exact (show InstAt h1 a _ C none from ⟨ho1, rfl, rfl, trivial⟩).type.andThen (looks_subIn K1 IC.ve)
  have k2 : ∀ b o, h1.get? b = some o → (h1.push (kxs_mw "ValueError.__init__" a)).get? b = some o := fun b o e => Heap.get?_push_of_some _ e
  have hu : (h1.push (kxs_mw "ValueError.__init__" a)).get? h1.objs.size = some (kxs_mw "ValueError.__init__" a) := Heap.get?_push_at rfl rfl
  have K2 := K1.keeps k2
  have k02 : ∀ b o, h₀.get? b = some o → (h1.push (kxs_mw "ValueError.__init__" a)).get? b = some o := fun b o e => k2 b o (k1' b o e)
  generalize h1.push (kxs_mw "ValueError.__init__" a) = hp2 at hu K2 k02 ⊢
  have ho2 := k02 _ _ ho0
  refine kxs_callWith (i := "ValueError.__init__") (x := a) (by rfl) (evalArgs_plain (Calls.spliced_cons (ESX.ldL (nsk _ fun b o _ e => k02 b o e) hVal (Calls.spliced_nil ⟨hu, ?_⟩) S.kind S.val)))
  refine call_mwV (K2 _ _ hC) ho2 hu (by rw [sizeLine_eq]; show [v0].length ≤ _; simp) (fun h3 t3 k3 e3 => ?_)
  have k03 : ∀ b o, b ≠ a → h₀.get? b = some o → h3.get? b = some o := fun b o hb e => k3 b o hb (k02 b o e)
  have K3 : K.In h3 := fun b o e => k03 b o (fun z => by
    have y := (e0.bs b o (e0.mod.kin b o e)).2
    rw [z, ea] at y
    cases y) (K0 b o e)
  have n3 := nsk h3 k03
  show _root_.PySem.wpAt _ _ _ _ _ _ _
  refine ks_wpAt_execs_cons (wpAt_of_wpAny (plainObj_wpAny_Assign_Attribute (ESX.ldL n3 hVal (ESX.ldL n3 hSelf ?_ S.kind S.slf) S.kind S.val) (by rfl)))
  refine PySem.W.set_plain K3 (ox := HandSPX.excO C t3) (od := none) ⟨e3, rfl, rfl, trivial⟩ IC.oex.sa ?_
  refine PySem.HandSPX.exc_osa K3 e3 hcl (show PySem.HandSPX.refsVE (.ref C :: bmC) = true from hbm) rfl IC.no (fun h4 tk4 dx k4 dn dne hx hn => ?_)
  show _root_.PySem.wpAt _ _ _ (execs [] _) _ _ _
  refine wpAt_of_wpAny (wpAny_execs_nil ?_)
  show CR CX outer P w H _ Q E (.ok (.ret .none)) _
  have kk : ∀ b o, b ≠ a → sh.get? b = some o → h4.get? b = some o := fun b o hb e => k4 b o hb (k03 b o hb (kp b o e))
  have szL : sh.objs.size ≤ dx := Nat.le_trans (Nat.le_of_lt (Heap.lt_size (k03 _ _ haL.symm hL))) dn
  have hnd : H dx = none := e0.hok.fresh szL
  have nd : ∀ {b : Addr} {o : Obj}, sh.get? b = some o → b ≠ dx := fun {b o} q => Nat.ne_of_lt (Nat.lt_of_lt_of_le (Heap.lt_size q) szL)
  have na : ∀ {b : Addr}, H b = none → b ≠ a := fun {b} n z => by
    rw [z, ea] at n
    cases n
  have Un1 : Un (frs outer) [] H (upd (upd H dx (exd dx [("value", y)])) a (exo a C (some dx))) sh h4 := {
    keep := fun b o q n _ _ => kk b o (na n) q
    slot := fun b o q n _ _ => ⟨o.slots, kk b o (na n) q⟩
    free := fun b o q n _ => by rw [upd_ne (na n), upd_ne (nd q)]; exact n
    there := fun b o q _ => by
      by_cases hb : b = a
      · exact ⟨_, by rw [hb]; exact hx⟩
      · exact ⟨o, kk b o hb q⟩
    tups := fun b xs q => by rw [upd_ne (at_ne ea q exo_tup), upd_ne (ne_of_none q hnd)]; exact q
    frzs := fun b o v q => by rw [upd_ne (at_ne ea q exo_frz), upd_ne (ne_of_none q hnd)]; exact q
    tbls := fun b ps q => ⟨#[], by rw [upd_ne (at_ne ea q exo_tbl), upd_ne (ne_of_none q hnd), q]; simp⟩ }
  refine ⟨.non, upd (upd H dx (exd dx [("value", y)])) a (exo a C (some dx)), rfl, e0.bare, Un1, fun b o q => ?_, rfl, hq dx hnd dne⟩
  by_cases hb : b = a
  · subst hb
    rw [upd_same] at q
    cases q
    exact exo_ok hx
  · rw [upd_ne hb] at q
    by_cases hd : b = dx
    · subst hd
      rw [upd_same] at q
      cases q
      exact exd_ok hn (relO_put (fs := []) rv fun g => True.intro)
    · rw [upd_ne hd] at q
      exact (e0.hok b o q).stay (fun c v hc z => kk c v (by
          rcases hc with hc | hc
          · rw [hc]
            exact hb
          · exact at_ne ea hc exo_own) z)
        (fun c hc => by rw [upd_ne (at_ne ea hc exo_own), upd_ne (ne_of_none hc hnd)]; exact hc) (fun c xs hc => by rw [upd_ne (at_ne ea hc exo_tup), upd_ne (ne_of_none hc hnd)]; exact hc)
end
end L2

end
section
set_option Elab.async false
set_option linter.all false
set_option autoImplicit false
set_option maxRecDepth 100000
set_option maxHeartbeats 2000000
/-! BiX2: such an exception made and kept as a value. -/
namespace L2
open PySem PySem.Spec PyProof.Rows PySem.W PySem.Calls
open Bi (exv)
theorem exv_tup {e C d : Addr} {xs : List V} : exv e C d ≠ .tup xs := fun z => by
  have z' : HO.ext _ = HO.tup xs := z
  cases z'
theorem exv_frz {e C d : Addr} {o : Obj} {u : HO} : exv e C d ≠ .frz o u := fun z => by
  have z' : HO.ext _ = HO.frz o u := z
  cases z'
theorem exv_tbl {e C d : Addr} {ps : Array Value} : exv e C d ≠ .tbl ps := fun z => by
  have z' : HO.ext _ = HO.tbl ps := z
  cases z'
theorem exv_ok {P : Program} {w : World} {H : Hp} {h : Heap} {a C d : Addr} {oe : Obj} {vs : Array Value} (h1 : h.get? a = some oe) (h2 : oe.cls = .ref C) (h3 : oe.dict = some d) (h4 : oe.data = .fields vs) : ObjOk P w H h a (exv a C d) :=
  ⟨⟨oe, vs, h1, h2, h3, h4⟩, ⟨_, h1⟩, fun g1 g2 z k => by
    obtain ⟨o, v, q1, q2⟩ := z
    exact ⟨o, v, k _ q1, q2⟩⟩
theorem exv_at {P : Program} {w : World} {H : Hp} {h : Heap} {a C d : Addr} (hok : HOk P w H h) (he : H a = some (exv a C d)) : ∃ (oe : Obj) (vs : Array Value), h.get? a = some oe ∧ oe.cls = .ref C ∧ oe.dict = some d ∧ oe.data = .fields vs := by
  have x : ObjOk P w H h a (.ext fun h => ∃ (oe : Obj) (vs : Array Value), h.get? a = some oe ∧ oe.cls = .ref C ∧ oe.dict = some d ∧ oe.data = .fields vs) := hok a _ he
  exact x.1
/-- C(e), kept -/
def tMkV (C : Addr) (ta : TA) : TE := fun σ H Q => ta σ H fun vs H1 => ∃ y, vs = [y] ∧ ∀ a d, H1 a = none → H1 d = none → d ≠ a → Q (.ref a) (upd (upd H1 a (exv a C d)) d (.xd [(("value" : Str), y)]))
section
variable {X : Cx} {e : Expr} {es : List Expr} {ta : TA} {p pos : Pos}
theorem pe_mkv {x : Str} {C D fI : Addr} {k : Nat} {fd : FuncData} (T : IniC X.K D C) (iC : PySem.W.findIn X.K (.ref C) "__init__" = some (some (.ref fI))) (tI : PySem.W.typeIn X.K (.ref fI) = some (.type "function")) (kC : PySem.W.keepIn X.K (.ref C) = true)
    (F1 : FnOk X.prog X.w X.K X.mg X.base (L2.CX X.prog X.w) k fI fd ["self", "value"] (spIni X.K D)) (hr : Room (k + 1) X.A) (hb : Binds X.K fd ["self", "value"] []) (hx : Passes (L2.CX X.prog X.w) X (fun _ _ _ => False)) (hg : Gl X x) (hm : X.mg x = some (.ref C)) (ha : PA X (e :: es) ta)
    (hdb : (x == ("__debug__" : Str)) = false) (he : starEach (e :: es) X.env = (false, eval e X.env) :: starEach es X.env) (hpl : (backTo pos (starEach es X.env)).any (·.1) = false) :
    PE X (.Call (.Name x p) (e :: es) [] pos) (tMkV C ta) := by
  refine ⟨fun pins s σ H Q I h => ?_⟩
  obtain ⟨nm, q, N, bs, bm, sn, sub, ab, col, dd, k0, k1, k2, k3, k5, hC, hbm⟩ := T.oex.cls
  refine wpAny_Call_Name_kw (ld_glob I hg hm ?_ hdb)
  refine PySem.W.callWith_K (h₀ := X.base) I.ok.mod.kin kC (thn (ha.run pos pins s σ H _ I h) fun us s1 ⟨vs, H1, I1, r1, y, ev, q1⟩ => ⟨I1.kIn, ?_⟩) he hpl
  subst ev
  show wpAny _ _ (call (.ref C) us) _ _ _
  obtain ⟨hp, g, dr, tk, os⟩ := s1
  have hsz : hp.objs.size ≤ hp.objs.size + 1 := Nat.le_succ _
  have hn : H1 (hp.objs.size + 1) = none := I1.hok.fresh hsz
  have kk : ∀ b o, hp.get? b = some o → ((hp.push (PySem.W.kdv_tup us)).push (PySem.HandSPX.excO C hp.objs.size)).get? b = some o := fun b o e => Heap.get?_push_of_some _ (Heap.get?_push_of_some _ e)
  have hget : ((hp.push (PySem.W.kdv_tup us)).push (PySem.HandSPX.excO C hp.objs.size)).get? (hp.objs.size + 1) = some (PySem.HandSPX.excO C hp.objs.size) := by heap_get
  have I2 : Inv X pins σ (upd H1 (hp.objs.size + 1) (exo (hp.objs.size + 1) C none)) ⟨(hp.push (PySem.W.kdv_tup us)).push (PySem.HandSPX.excO C hp.objs.size), g, dr, tk, os⟩ :=
    I1.laid (t' := tk) (a := hp.objs.size + 1) (o := exo (hp.objs.size + 1) C none) (h' := (hp.push (PySem.W.kdv_tup us)).push (PySem.HandSPX.excO C hp.objs.size)) kk hsz (exo_ok hget)
  have r2 : Vals [V.ref (hp.objs.size + 1), y] (Value.ref (hp.objs.size + 1) :: us) := .cons rfl r1
  have hus1 : us.length = 1 := r1.length.symm
  have hus : us.length ≤ sizeLine := by
    rw [hus1, sizeLine_eq]
    decide
  generalize ha0 : hp.objs.size + 1 = a at *
  have hsp : spIni X.K D [V.ref a, y] (upd H1 a (exo a C none)) (fun v H2 => v = .non ∧ ∃ d, H2 = upd (upd (upd H1 a (exo a C none)) d (exd d [("value", y)])) a (exo a C (some d)) ∧ H1 d = none ∧ d ≠ a) (fun _ _ _ => False) :=
    ⟨a, C, y, rfl, T, upd_same, fun d hd hne => ⟨rfl, d, rfl, by rw [upd_ne hne] at hd; exact hd, hne⟩⟩
  rw [← ha0] at hsp r2 I2
  refine wpAny_call (PySem.HandSPX.call_own F.excBase_ValueError (fun Y => PySem.HandSPX.refsVE_contains Y bm hbm) (I1.kIn _ _ hC) (PySem.W.looks_findIn I1.kIn iC) (fun self => PySem.W.bind_fn I1.kIn self tI) hus
    (codeAny_mono (F1.run _ X.stack _ _ ⟨Value.ref (hp.objs.size + 1) :: us, []⟩ (Value.ref (hp.objs.size + 1) :: us) _ _ (fun _ _ _ => False) (hr.make C us []) (I2.env0.make C us []) (by
      have z := hb ⟨(hp.push (PySem.W.kdv_tup us)).push (PySem.HandSPX.excO C hp.objs.size), g, dr, tk, os⟩ (Value.ref (hp.objs.size + 1) :: us) I2.kIn (by simp [hus1])
      rw [List.append_nil] at z
      exact z) r2 hsp) fun r s' hq' => ?_))
  cases r with
  | error er => exact hx pins σ _ _ er s' I2 hq'
  | ok fl =>
    cases fl with
    | ret u =>
      obtain ⟨v, H2, os2, bare2, un2, hok2, rv, ev, d, eH, hd1, hda⟩ := hq'
      subst ev
      rw [ha0] at un2 eH hda
      obtain ⟨h2, g2, d2, t2, os'⟩ := s'
      have ea : H2 a = some (exo a C (some d)) := by rw [eH, upd_same]
      have ed : H2 d = some (exd d [("value", y)]) := by rw [eH, upd_ne hda, upd_same]
      obtain ⟨t0, hoe⟩ := exo_at hok2 ea
      obtain ⟨mA, hns, rel⟩ := exd_at hok2 ed
      have nha : ∀ {b : Addr} {o : Obj}, hp.get? b = some o → b ≠ a := fun {b o} z => Nat.ne_of_lt (Nat.lt_of_lt_of_le (Heap.lt_size z) hsz)
      have up : ∀ {b : Addr}, b ≠ a → H1 b = none → upd H1 a (exo a C none) b = none := fun {b} hb n => by rw [upd_ne hb]; exact n
      have nd : ∀ {b : Addr} {o : Obj}, hp.get? b = some o → H1 b = none → b ≠ d := fun {b o} z n e => by
        have y := un2.free b o (kk b o z) (up (nha z) n) (by simp)
        rw [e, ed] at y
        cases y
      have oth : ∀ {b : Addr}, b ≠ a → b ≠ d → upd (upd H1 a (exv a C d)) d (.xd [(("value" : Str), y)]) b = H1 b := fun {b} z1 z2 => by rw [upd_ne z2, upd_ne z1]
      have oth2 : ∀ {b : Addr}, b ≠ a → b ≠ d → H2 b = H1 b := fun {b} z1 z2 => by rw [eH, upd_ne z1, upd_ne z2, upd_ne z1]
      have U : Un (frs X.stack) [] H1 (upd (upd H1 a (exv a C d)) d (.xd [(("value" : Str), y)])) hp h2 := {
        keep := fun b o z n hf hx => un2.keep b o (kk b o z) (up (nha z) n) hf hx
        slot := fun b o z n hf hx => un2.slot b o (kk b o z) (up (nha z) n) hf hx
        free := fun b o z n hx => by rw [oth (nha z) (nd z n)]; exact n
        there := fun b o z hx => un2.there b o (kk b o z) hx
        tups := fun b xs z => by rw [oth (ne_of_none z hn) (ne_of_none z hd1)]; exact z
        frzs := fun b o v z => by rw [oth (ne_of_none z hn) (ne_of_none z hd1)]; exact z
        tbls := fun b ps z => ⟨#[], by rw [oth (ne_of_none z hn) (ne_of_none z hd1), z]; simp⟩ }
      have hok3 : HOk X.prog X.w (upd (upd H1 a (exv a C d)) d (.xd [(("value" : Str), y)])) h2 := fun b o z => by
        by_cases hbd : b = d
        · subst hbd
          rw [upd_same] at z
          cases z
          exact ⟨mA, hns, rel⟩
        · by_cases hba : b = a
          · subst hba
            rw [upd_ne hbd, upd_same] at z
            cases z
            exact exv_ok hoe rfl rfl rfl
          · rw [oth hba hbd] at z
            exact (hok2 b o (by rw [oth2 hba hbd]; exact z)).stay (fun c v hc y => y)
              (fun c hc => by rw [oth (at_ne ea hc exo_own) (at_ne ed hc exd_own), ← oth2 (at_ne ea hc exo_own) (at_ne ed hc exd_own)]; exact hc) (fun c xs hc => by rw [oth (at_ne ea hc exo_tup) (at_ne ed hc exd_tup), ← oth2 (at_ne ea hc exo_tup) (at_ne ed hc exd_tup)]; exact hc)
      have J : Inv X pins σ (upd (upd H1 a (exv a C d)) d (.xd [(("value" : Str), y)])) ⟨h2, g2, d2, t2, os'⟩ := I1.call' (ch := []) os2 U hok3 bare2 (fun b z => absurd z (by simp))
      refine ⟨rv, ?_⟩
      refine ⟨.ref a, _, J, ?_, q1 a d hn hd1 hda⟩
      show Value.ref (hp.objs.size + 1) = Value.ref a
      rw [ha0]
    | next => exact False.elim hq'
    | brk => exact False.elim hq'
    | cont => exact False.elim hq'
end
end L2

end
section
set_option Elab.async false
set_option linter.all false
set_option autoImplicit false
set_option maxRecDepth 100000
set_option maxHeartbeats 2000000
/-! BiX3: isinstance of such an exception, its field. -/
namespace L2
open PySem PySem.Spec PyProof.Rows PySem.W PySem.Calls
open Bi (exv)
section
variable {prog : Program} {w : World} {A : Around} {E : Value → Shared → Prop} {s : Shared} {K : Frag} {x D : Addr} {ox : Obj} {od : Option Obj}
theorem found_data {C : Addr} {name : Str} {a g : Value} (hc : (clsIn K C).isSome = true) (ha : findIn K (.ref C) name = some (some a)) (hg : specialIn K a "__get__" = some (some g)) (ht : takesIn K a = some true) : findObj K C od name = some (.bind g a) := by
  obtain ⟨cd, e⟩ := Option.isSome_iff_exists.mp hc; unfold findObj; rw [e, Option.bind_some, ha, Option.bind_some]; simp [hg, ht]
theorem class_of_exc (T : ExcC K D) {Q : Option Value → Shared → Prop} (X : K.In s.heap) (I : InstAt s.heap x ox D od) (h : Q (some (.ref D)) { s with toks := s.toks + 1 }) : wpAny (model prog w) A (getAttr? (.ref x) "__class__") Q E s := by
  have hcs : (clsIn K D).isSome = true := by obtain ⟨cd, hc, _⟩ := any_some T.hd; rw [hc]; rfl
  have hf : findObj K D od "__class__" = some (.bind (.builtin "getset_descriptor.__get__") (.builtin "object.__class__")) := found_data hcs T.ha T.hn T.ht
  obtain ⟨hp, g, d, t, os⟩ := s
  have L0 := I.type (M := model prog w); have L1 := looks_findIn (M := model prog w) X T.hg
  have L2 := looks_findIn (M := model prog w) X T.hk; have L3 := looks_find (M := model prog w) X I hf
  have sub : Looks (model prog w) hp (isInstance (.ref x) (.type "BaseException")) true := L0.andThen (looks_subIn X T.hs)
  have y0 : (false && onTheHeap (Value.builtin "BaseException.__getattribute__")) = false := rfl
  have y1 : (onTheHeap (Value.ref D) && Value.builtin "BaseException.__getattribute__" == Value.builtin "object.__getattribute__") = false := by
    rw [show (Value.builtin "BaseException.__getattribute__" == Value.builtin "object.__getattribute__") = false by decide +kernel]; rfl
  unfold getAttr? getAttrBy? getAttrBy; refine wpAny_bind (wpAny_mkText (wpAny_bind (wpAny_attempt (wpAny_holding (wpAny_bind (L0.at (wpAny_bind (L1.at ?_))))))))
  show wpAny _ _ (if (onTheHeap (Value.ref D) && Value.builtin "BaseException.__getattribute__" == Value.builtin "object.__getattribute__") = true then _ else _) _ _ _; rw [y1, if_neg Bool.false_ne_true]
  unfold getAttrByItsOwn hookBefore; refine wpAny_bind ?_; rw [if_pos (show onTheHeap (Value.ref D) = true from rfl)]; refine L2.at ?_
  refine wpAny_bind (wpAny_attempt (wpAny_holding ?_)); unfold callGetattribute; rw [y0, if_neg Bool.false_ne_true]; unfold boundAndCalled; rw [PySem.F.excAttr_ValueError.ga.bind (.ref x)]; refine wpAny_bind (wpAny_pure ?_)
  show wpAny _ _ (call (.builtin "BaseException.__getattribute__") [.ref x, .str "__class__" t]) _ _ _; refine wpAny_call (codeAny_call_builtin PySem.F.excAttr_ValueError.ga.plain PySem.F.entry_bexc_ga ?_)
  refine @check_slot (model prog w) _ _ ⟨hp, g, d, t + 1, os⟩ "BaseException.__getattribute__" "BaseException" "__getattribute__" (.ref x) [.str "__class__" t] [] _ (by decide +kernel) (by decide +kernel) sub (PySem.F.args_bexc_ga (.ref x) (.str "__class__" t)) ?_; unfold Builtin.«object.__getattribute__»
  refine wpAny_bind (wpAny_of_eq (a := ((Value.ref x : Value), [Value.str "__class__" t])) (by first | rfl | (simp only [slotArgs]; rfl)) ?_); refine wpAny_bind (wpAny_pure (wpAny_bind (L0.at (wpAny_bind (L3.at ?_)))))
  show wpAny _ _ (holding [Value.builtin "object.__class__"] (call (.builtin "getset_descriptor.__get__") [.builtin "object.__class__", .ref x, .ref D]) >>= ret) _ _ _; refine wpAny_bind (wpAny_holding (wpAny_call (class_get (s := ⟨hp, g, d, t + 1, os⟩) (ox := ox) (od := od) X I T.hm ?_)))
  refine wpAny_pure ?_; show wpAny _ _ (handedOut (.ref D)) _ _ _; rw [handedOut_of (v := .ref D) rfl]
  first | exact wpAny_pure (wpAny_pure h) | exact wpAny_pure h | exact wpAny_pure (wpAny_bind (wpAny_pure (wpAny_pure h)))
theorem kit_exc (T : ExcC K D) : KitX K (.ref x) (.ref D) (fun h => InstAt h x ox D od) := by
  obtain ⟨cdD, hcD, _⟩ := any_some T.hd
  have lk : ∃ c d sl, K.lookup D = some ⟨c, d, .cls cdD, sl⟩ := by
    unfold clsIn at hcD; split at hcD
    · rename_i c d cd sl ho; cases hcD; exact ⟨c, d, sl, ho⟩
    · cases hcD
  obtain ⟨c, d, sl, ho⟩ := lk
  refine ⟨fun _ _ _ I => I.type, fun _ _ X _ A' Q' E' s' k q => ?_, fun h tp dd its n sl' X htp => ?_, fun X I k => class_of_exc T X I k⟩
  · unfold isType loadHead; exact wpAny_bind (wpAny_loadPart (k _ _ (X _ _ ho)) (wpAny_pure q))
  · refine Bool.eq_false_iff.mpr fun q => ?_
    have e : D = tp := Value.ref.inj (beq_iff_eq.mp q); rw [← e] at htp
    have z := (X _ _ ho).symm.trans htp; cases z
end
theorem exv_inst {X : Cx} {pins : List (Addr × Obj)} {σ : St} {H : Hp} {s : Shared} {a C d : Addr} {fs : List (Str × V)} (I : Inv X pins σ H s) (e : H a = some (exv a C d)) (ed : H d = some (.xd fs)) :
    ∃ (oe od : Obj) (mA : Str → Option Value), InstAt s.heap a oe C (some od) ∧ (∀ f, RelO (fs.lookup f) (mA f)) ∧ ∀ n, PySem.W.lookIn n od = some (mA n) := by
  obtain ⟨oe, vs, h1, h2, h3, h4⟩ := exv_at I.hok e
  obtain ⟨mA, hns, hr⟩ := (show ObjOk X.prog X.w H s.heap d (.xd fs) from I.hok d _ ed)
  obtain ⟨od, ho, hl⟩ := lookIn_ns hns
  exact ⟨oe, od, mA, ⟨h1, h2, by unfold PySem.W.notCls; rw [h4] <;> rfl, by rw [h3]; exact ho⟩, hr, hl⟩
/-- isinstance(e, c), e such an exception -/
def rIsX (K : PySem.W.Frag) : List V → Hp → VK → Prop := fun xs H Q => ∃ (a D d : Addr) (fs : List (Str × V)) (c : V) (cv : Value) (b : Bool), xs = [.ref a, c] ∧ H a = some (exv a D d) ∧ H d = some (.xd fs) ∧ ExcC K D ∧ (∀ u, RelV c u → u = cv) ∧ PySem.W.kitOne K (.ref D) cv = some b ∧ Q (.bl b) H
theorem call_isX {X : Cx} : CallR X (.builtin "isinstance") (rIsX X.K) := by
  intro pins s σ H xs us Q I r h
  obtain ⟨a, D, d, fs, c, cv, b, rfl, e1, e2, T, hcv, e, q⟩ := h
  cases r with
  | cons rx rr =>
    cases rr with
    | cons rt rr =>
      cases rr; cases rx
      have ec := hcv _ rt; subst ec
      obtain ⟨oe, od, mA, J, _⟩ := exv_inst I e1 e2
      exact PySem.W.kia_one (kit_exc T) I.kIn J e (fun z => nomatch z) fun tk => ⟨.bl b, H, I.tok tk, rfl, q⟩
/-- e.n, e such an exception -/
def tXv (K : PySem.W.Frag) (n : Str) (te : TE) : TE := fun σ H Q => te σ H fun x H1 => ∃ (a C d : Addr) (fs : List (Str × V)) (v : V), x = .ref a ∧ H1 a = some (exv a C d) ∧ H1 d = some (.xd fs) ∧ XfC K C ∧ PySem.W.findIn K (.ref C) n = some none ∧ fs.lookup n = some v ∧ Q v H1
theorem pe_xv {X : Cx} {e : Expr} {te : TE} {pos : Pos} {n : Str} (he : PE X e te) (hb : attributeBase e n X.env (eval e X.env) = eval e X.env) : PE X (.Attribute e n pos) (tXv X.K n te) := by
  refine ⟨fun pins s σ H Q I h => attr_of hb (thn (he.run pins s σ H _ I h) fun u s1 hh => ?_)⟩
  obtain ⟨x, H1, I1, rx, a, C, d, fs, v, ex, e1, e2, T, hno, l, q⟩ := hh
  subst ex
  obtain rfl : u = Value.ref a := rx
  obtain ⟨oe, od, mA, J, hr, hl⟩ := exv_inst I1 e1 e2
  obtain ⟨u, hu, ru⟩ := RelO.some_of (v := v) (o := mA n) (by rw [← l]; exact hr n)
  exact HandSPX.exc_get I1.kIn J T.ga T.gg T.exC (PySem.W.findObj_own T.hdC hno rfl (by rw [hl, hu])) (handed_of ru) ⟨v, H1, I1.tok _, ru, q⟩
end L2

end
section
set_option Elab.async false
set_option linter.all false
set_option autoImplicit false
set_option maxRecDepth 100000
set_option maxHeartbeats 2000000
/-! BiX4: what the head says of such exceptions, checked. -/
namespace Bi
open PySem L2 PySem.Spec PyProof.Rows PySem.W
def own6 : List String := ["bool", "int", "str", "tuple", "list", "dict"]
/-- what is known of an own exception class -/
structure ExF (P : Program) (w : World) (K : PySem.W.Frag) (mg : Str → Option Value) (base : Heap) (ex : Str → Option (List Str)) (x : Str) (anc : List Str) : Prop where
  ex : ∃ (C D fI : Addr) (fd : FuncData), mg x = some (.ref C) ∧ IniC K D C ∧ findIn K (.ref C) "__init__" = some (some (.ref fI)) ∧ typeIn K (.ref fI) = some (.type "function") ∧ keepIn K (.ref C) = true ∧
    (∀ k, FnOk P w K mg base (L2.CX P w) k fI fd ["self", "value"] (spIni K D)) ∧ Binds K fd ["self", "value"] [] ∧ ExcC K C ∧ XfC K C ∧
    (∀ y anc2, ex y = some anc2 → ∃ C2, mg y = some (.ref C2) ∧ kitOne K (.ref C) (.ref C2) = some (anc.contains y)) ∧ kitOne K (.ref C) (.type "ValueError") = some true ∧
    (∃ o, K.lookup sysModules = some o ∧ o.cls = .type "dict") ∧ (∀ n ∈ own6, kitOne K (.ref C) (.type n) = some false) ∧ ∀ t ∈ "NoneType" :: own6, kitOne K (.type t) (.ref C) = some false
/-! ### the checks -/
def sysB (K : PySem.W.Frag) : Bool := match K.lookup sysModules with
  | some ⟨.type t, _, _, _⟩ => t == "dict"
  | _ => false
theorem sys_ok {K : PySem.W.Frag} (h : sysB K = true) : ∃ o, K.lookup sysModules = some o ∧ o.cls = .type "dict" := by
  unfold sysB at h
  split at h
  · rename_i t d dt sl e
    exact ⟨_, e, congrArg Value.type (beq_iff_eq.mp h)⟩
  · cases h
def oexB (K : PySem.W.Frag) (C : Addr) : Bool := (match K.lookup C with
    | some ⟨.type t, dd, .cls ⟨nm, bs, .ref C' :: bm, ns, qn, true, sn, sub, ab, col, false⟩, ⟨[k0, k1, k2, k3, some (.builtin n), k5]⟩⟩ => t == "type" && (C' == C && (n == "ValueError.__new__" && HandSPX.refsVE bm))
    | _ => false) &&
  (decide (findIn K (.ref C) "__setattr__" = some (some (.builtin "object.__setattr__"))) && (decide (subIn K (.ref C) (.type "BaseException") = some true) && (decide (typeIn K (.ref C) = some (.type "type")) && keepIn K (.ref C))))
theorem oex_ok {K : PySem.W.Frag} {C : Addr} (h : oexB K C = true) : OexC K C := by
  unfold oexB at h
  simp only [Bool.and_eq_true, decide_eq_true_eq] at h
  obtain ⟨h1, h2, h3, h4, h5⟩ := h
  refine ⟨?_, h2, h3, h4, h5⟩
  split at h1
  · rename_i t dd nm bs C' bm ns qn sn sub ab col k0 k1 k2 k3 n k5 e
    simp only [Bool.and_eq_true, beq_iff_eq] at h1
    obtain ⟨rfl, rfl, rfl, h9⟩ := h1
    exact ⟨_, _, _, _, _, _, _, _, _, _, _, _, _, _, _, e, h9⟩
  · cases h1
def iniCB (K : PySem.W.Frag) (D C : Addr) : Bool := oexB K C && (decide (mroIn K C (.ref D) = some true) && (decide (ks_superIn K C D "__init__" = some (some (.builtin "ValueError.__init__"))) && (decide (subIn K (.ref C) (.type "ValueError") = some true) && decide (findIn K (.ref C) "value" = some none))))
theorem iniC_ok {K : PySem.W.Frag} {D C : Addr} (h : iniCB K D C = true) : IniC K D C := by
  unfold iniCB at h
  simp only [Bool.and_eq_true, decide_eq_true_eq] at h
  obtain ⟨h1, h2, h3, h4, h5⟩ := h
  exact ⟨oex_ok h1, h2, h3, h4, h5⟩
def excCB (K : PySem.W.Frag) (C : Addr) : Bool := xfB K C && (decide (findIn K (.ref C) "__class__" = some (some (.builtin "object.__class__"))) && (decide (specialIn K (.builtin "object.__class__") "__get__" = some (some (.builtin "getset_descriptor.__get__"))) &&
  (decide (takesIn K (.builtin "object.__class__") = some true) && decide (mroIn K C (.type "object") = some true))))
theorem excC_ok {K : PySem.W.Frag} {C : Addr} (h : excCB K C = true) : ExcC K C ∧ XfC K C := by
  unfold excCB at h
  simp only [Bool.and_eq_true, decide_eq_true_eq] at h
  obtain ⟨h1, h2, h3, h4, h5⟩ := h
  have x := xfB_ok h1
  exact ⟨⟨x.ga, x.gg, x.exC, x.hdC, h2, h3, h4, h5⟩, x⟩
def iniSB (S : Scope) : Bool := decide (S.kind = .function) && (!S.isCoroutine && (!S.isGenerator && (S.names.all (fun x => !decide (x.2 = .cell)) && (decide (S.names.lookup ("super" : Str) = some .globalImplicit) && (decide (S.names.lookup ("__class__" : Str) = some .free) &&
  (decide (S.names.lookup ("self" : Str) = some .local) && decide (S.names.lookup ("value" : Str) = some .local)))))))
theorem iniS_ok {S : Scope} (h : iniSB S = true) : IniS S := by
  unfold iniSB at h
  simp only [Bool.and_eq_true, decide_eq_true_eq, Bool.not_eq_true', List.all_eq_true, decide_eq_false_iff_not] at h
  obtain ⟨h1, h2, h3, h4, h5, h6, h7, h8⟩ := h
  exact ⟨h1, h2, h3, h4, h5, h6, h7, h8⟩
def fileB (K : PySem.W.Frag) (file : Str) (cda : Addr) : Bool := match K.lookup cda with
  | some ⟨_, _, .fields vs, _⟩ => (match (vs[2]? : Option Value) with
    | some (Value.str f _) => file == f
    | _ => false)
  | _ => false
/-- the def that is looked for, at the class at D -/
def iniFB (K : PySem.W.Frag) (file : Str) (fI : Addr) : Option Addr := match K.lookup fI with
  | some ⟨.type t, _, .func ⟨_, qn, ⟨[], [⟨a0, _, _⟩, ⟨a1, _, _⟩], none, [], [], none, []⟩, .stmts [.Expr (.Call (.Attribute (.Call (.Name n0 _) [] [] _) n1 p2) [.Name n2 _] [] p4) _, .Assign [.Attribute (.Name n3 _) n4 _] (.Name n5 _) _], sc, gl, [(cn, cc)], .none, _, _, _, _, .ref cda, _, bl⟩, _⟩ =>
    if t == "function" && (a0 == ("self" : Str) && (a1 == ("value" : Str) && (n0 == ("super" : Str) && (n1 == ("__init__" : Str) && (n2 == ("value" : Str) && (n3 == ("self" : Str) && (n4 == ("value" : Str) && (n5 == ("value" : Str) && (cn == ("__class__" : Str) &&
      (decide (gl = mainGlobals) && (decide (bl = builtinsNs) && (p2.endLine == p4.line && (iniSB sc && (codeIn K (.ref cda) qn && fileB K file cda)))))))))))))) then (match K.lookup cc with
      | some ⟨_, _, .cell (some (.ref D)), _⟩ => if (clsIn K D).isSome = true then some D else none
      | _ => none) else none
  | _ => none
theorem iniF_ok {P : Program} {w : World} {K : PySem.W.Frag} {mg : Str → Option Value} {base : Heap} {CX : CXT} {file : Str} {fI D : Addr} (h : iniFB K file fI = some D) (hf : P.main.file = file) (hms : mg "super" = none) (htop : (P.main.scope.names.lookup ("super" : Str)).isSome = false) (hop : nsIn K cStatics "thirdparty.any" = some none) :
    typeIn K (.ref fI) = some (.type "function") ∧ ∃ fd, Binds K fd ["self", "value"] [] ∧ ∀ k, FnOk P w K mg base CX k fI fd ["self", "value"] (spIni K D) := by
  unfold iniFB at h
  split at h
  · rename_i t od nm qn a0 q0 q1 a1 q2 q3 n0 p0 p1 n1 p2 n2 p3 p4 p5 n3 p6 n4 p7 n5 p8 p9 sc gl cn cc kV doc pm an cda ct bl osl lk
    split at h
    · rename_i c
      simp only [Bool.and_eq_true, beq_iff_eq, decide_eq_true_eq] at c
      obtain ⟨rfl, rfl, rfl, rfl, rfl, rfl, rfl, rfl, rfl, rfl, rfl, rfl, c13, c14, c15, c16⟩ := c
      unfold fileB at c16
      split at c16
      · rename_i ccl cdd vs ccs hcode
        split at c16
        · rename_i f tf hvs
          split at h
          · rename_i cl cld D' csl hcell
            split at h
            · rename_i hD
              cases h
              obtain ⟨cdD, hcd⟩ := Option.isSome_iff_exists.mp hD
              refine ⟨?_, ksFn nm qn ⟨[], [⟨"self", q0, q1⟩, ⟨"value", q2, q3⟩], none, [], [], none, []⟩ (iniBody p0 p1 p2 p3 p4 p5 p6 p7 p8 p9) sc .none kV doc pm an (.ref cda) ct cc, Binds.all fun us hl => ?_, fun k => ?_⟩
              · show (K.lookup fI).map (·.cls) = some (.type "function")
                rw [lk]
                rfl
              · match us, hl with
                | [_, _], _ => rfl
              · exact ini_ok (beq_iff_eq.mpr c13) lk c15 (iniS_ok c14) (ar := ⟨"self", q0, q1⟩) rfl rfl hcode hvs (by rw [hf, c16]) hcell hcd hms htop hop
            · cases h
          · cases h
        · cases c16
      · cases c16
    · cases h
  · cases h
end Bi

end
section
set_option Elab.async false
set_option linter.all false
set_option autoImplicit false
set_option maxRecDepth 100000
set_option maxHeartbeats 1000000
/-! Bi4: calls of the program's own defs, methods, classes, properties; own len, in; built-ins by values. -/
namespace Bi
open PySem L2
/-- room, and no guard of a repr under way -/
structure RG (k : Nat) (A : Around) : Prop where
  rm : Room k A
  g : A.guards = some []
theorem RG.mono {j k : Nat} {A : Around} (r : RG k A) (h : j ≤ k) : RG j A := ⟨r.rm.mono h, r.g⟩
theorem RG.deeper {k : Nat} {A : Around} (r : RG (k + 1) A) (env : Env) : RG k (A.deeper env) := ⟨r.rm.deeper env, r.g⟩
theorem RG.in1 {k : Nat} {A : Around} (r : RG (k + 1) A) : RG k A.in1 := ⟨r.rm.in1, r.g⟩
theorem make_guards {A : Around} {C : Addr} {us : List Value} {kw : List (Str × Value)} : (A.under (.builtin "type.__call__" ⟨.ref C :: us, kw⟩)).guards = A.guards := by
  first | rfl | simp [Around.under, Code.weight, Code.isCreation, Code.isGuard, Code.isCaller, Code.frames, Code.isFrame, guardIds]
theorem RG.make {k : Nat} {A : Around} (r : RG (k + 1) A) (C : Addr) (us : List Value) (kw : List (Str × Value)) : RG k (A.under (.builtin "type.__call__" ⟨.ref C :: us, kw⟩)) := ⟨r.rm.make C us kw, by rw [make_guards]; exact r.g⟩
/-- a def that keeps its promise wherever no repr is under way -/
structure FnG (P : Program) (w : World) (K : PySem.W.Frag) (mg : Str → Option Value) (base : Heap) (k : Nat) (f : Addr) (fd : FuncData) (ps : List Str) (sp : Sp) : Prop where
  len : ∀ vs H Q E, sp vs H Q E → vs.length = ps.length
  run : ∀ (A : Around) (outer : List Env) (s : Shared) (H : Hp) (args : Args) (us : List Value) (vs : List V) (Q : VK) (E : XK), RG k A → Env0 P w K mg base A outer s H → BindsTo s fd args (ps.zip us) → Vals vs us → sp vs H Q E →
    codeAny (model P w) A (.call (.ref f) args) (CR (L2.CX P w) outer P w H s Q E) s
section
variable {X : Cx} {k : Nat} {f : Addr} {fd : FuncData} {ps : List Str} {sp : Sp} {pins : List (Addr × Obj)} {σ : L2.St} {H : Hp} {s : Shared} {Q : VK} {us ds : List Value} {vs dvs : List V}
theorem run_fnG {E : XK} (F : FnG X.prog X.w X.K X.mg X.base k f fd ps sp) (hr : RG k X.A) (hb : Binds X.K fd ps ds) (hd : Vals dvs ds) (hx : PassesAt (L2.CX X.prog X.w) X σ E)
    (I : L2.Inv X pins σ H s) (r : Vals vs us) (h : sp (vs ++ dvs) H Q E) : wpAny (model X.prog X.w) X.A (call (.ref f) us) (EP X pins σ Q) X.xe s := by
  have hz := r.append hd
  have hl := F.len _ _ _ _ h
  rw [hz.length] at hl
  refine wpAny_call (codeAny_mono (F.run X.A X.stack s H ⟨us, []⟩ _ _ Q E hr I.env0 (hb s us I.kIn hl) hz h) fun r s' hq => ?_)
  match r, hq with
  | .error e, hq => exact hx pins H s e s' I hq
  | .ok (.ret u), hq => exact I.after hq
  | .ok .next, hq => exact hq.elim
  | .ok .brk, hq => exact hq.elim
  | .ok .cont, hq => exact hq.elim
end
/-- what the walk is told of the program's names -/
structure Tab where
  fn : Str → Bool
  dfl : Str → Nat → Option (List PV)
  meth : Str → Str → Bool
  prop : Str → Str → Bool
  attr : Str → Str → Bool
  mkr : Str → Bool
  con : Str → Option PV
  free : Str → Bool
  ctup : Str → Bool
  /-- own exception classes, each with those over it, itself too -/
  exc : Str → Option (List Str) := fun _ => none
def qn (C m : Str) : Str := C ++ Str.ofString "." ++ m
/-- what a call of x is to do -/
def spPhi (K : PySem.W.Frag) (mg : Str → Option Value) (φ : Phi) (x : Str) (n : Nat) : Sp := fun vs H Q E =>
  ∃ ρ s args, Rel K mg ρ s H ∧ args.all (PV.bd s.g.length) = true ∧ RVs K mg H ρ args vs ∧ args.length = n ∧ PostE K mg (fun c d _ H => E c d H) ρ s H [] Q (φ x args s)
structure FnF (X : Cx) (T : Tab) (φ : Phi) (k : Nat) (x : Str) (f : Addr) : Prop where
  ex : ∃ n fd ps, FnG X.prog X.w X.K X.mg X.base k f fd ps (spPhi X.K X.mg φ x n) ∧ (∀ args s, φ x args s ≠ .bad → args.length = n) ∧
    ∀ j dps, T.dfl x j = some dps → ∃ ds dvs, Binds X.K fd ps ds ∧ Vals dvs ds ∧ (∀ H ρ, RVs X.K X.mg H ρ dps dvs) ∧ dps.all (PV.bd 0) = true
structure Facts (X : Cx) (T : Tab) (φ : Phi) (k : Nat) : Prop where
  fn : ∀ x, T.fn x = true → ∃ f, X.mg x = some (.ref f) ∧ PySem.W.keepIn X.K (.ref f) = true ∧ FnF X T φ k x f
  meth : ∀ C m Ca, T.meth C m = true → X.mg C = some (.ref Ca) → Cls X.K Ca ∧ ∃ f, Meth X.K Ca m f ∧ FnF X T φ k (qn C m) f
  prop : ∀ C m Ca, T.prop C m = true → X.mg C = some (.ref Ca) → Cls X.K Ca ∧ ∃ p f, PropOf X.K Ca m p f ∧ FnF X T φ k (qn C m) f
  attr : ∀ C m Ca, T.attr C m = true → X.mg C = some (.ref Ca) → Cls X.K Ca ∧ NoAttr X.K Ca m
  mkr : ∀ C, T.mkr C = true → ∃ Ca f, X.mg C = some (.ref Ca) ∧ Mk X.K Ca f ∧ FnF X T φ k (qn C (Str.ofString "__init__")) f
  con : ∀ x v, T.con x = some v → ∃ u u', X.mg x = some u' ∧ RelV u u' ∧ (∀ H ρ, RV X.K X.mg H ρ v u) ∧ v.bd 0 = true
  free : ∀ x, T.free x = true → X.mg x = none
  ctup : ∀ x, T.ctup x = true → ∃ a o, X.mg x = some (.ref a) ∧ X.K.lookup a = some o ∧ o.cls = .type "tuple" ∧ o.dict = none
  gd : ∀ x args s, GdR s (φ x args s)
  exc : ∀ x anc, T.exc x = some anc → ExF X.prog X.w X.K X.mg X.base T.exc x anc
section
variable {X : Cx} {W : WX} {φ : Phi} {T : Tab} {k : Nat} {m ma mb mc : ME} {e a b c o : Expr} {pos p apos : Pos} {x : Str}
/-- two wishes of exceptions, the same of what is raised -/
theorem post_wish {α β : Type} {K : PySem.W.Frag} {mg : Str → Option Value} {RR : Hp → (Nat → Addr) → Sg → α → β → Prop} {W W' : WX} {ρ : Nat → Addr} {s : Sg} {H : Hp} {σ σ' : L2.St} {Q : β → Hp → Prop} {r : R α} (h : Post K mg RR W ρ s H σ Q r) (k : ∀ c d H, W c d σ H → W' c d σ' H) : Post K mg RR W' ρ s H σ' Q r := by
  cases r with
  | ok v s' => exact h
  | err C v s' => exact fun ρ' H' Ca dd u n e1 e2 e3 e4 => k _ _ _ (h ρ' H' Ca dd u n e1 e2 e3 e4)
  | bad => exact h
theorem post_nobad {α β : Type} {K : PySem.W.Frag} {mg : Str → Option Value} {RR : Hp → (Nat → Addr) → Sg → α → β → Prop} {W : WX} {ρ : Nat → Addr} {s : Sg} {H : Hp} {σ : L2.St} {Q : β → Hp → Prop} {r : R α} (h : Post K mg RR W ρ s H σ Q r) : r ≠ .bad := fun e => by
  rw [e] at h
  exact h
theorem rvs_zero {K : PySem.W.Frag} {mg : Str → Option Value} {H : Hp} {ρ : Nat → Addr} {n : Nat} {xs : List PV} (h : xs.all (PV.bd 0) = true) : xs.all (PV.bd n) = true := alls_mono (Nat.zero_le _) h
/-- the promise at a call -/
theorem sp_of {n : Nat} {fd : FuncData} {args dps : List PV} {vs dvs : List V} {H : Hp} {ρ : Nat → Addr} {s : Sg} {Q : VK} {σ : L2.St} (rel : Rel X.K X.mg ρ s H) (hb : args.all (PV.bd s.g.length) = true) (r : RVs X.K X.mg H ρ args vs) (hd : ∀ H ρ, RVs X.K X.mg H ρ dps dvs) (hdb : dps.all (PV.bd 0) = true)
    (hn : ∀ args s, φ x args s ≠ .bad → args.length = n) (h : PostE X.K X.mg W ρ s H σ Q (φ x (args ++ dps) s)) : spPhi X.K X.mg φ x n (vs ++ dvs) H Q (WE W σ) :=
  ⟨ρ, s, args ++ dps, rel, all_append hb (alls_mono (Nat.zero_le _) hdb), paired_append r (hd H ρ), hn _ _ (post_nobad h), post_wish h fun _ _ _ z => z⟩
/-! ### f(..) -/
def mCall (x : Str) (dps : List PV) (ml : ML) : ME := fun φ p s => (ml φ p s).bind fun vs s => φ x (vs ++ dps) s
theorem mCall_gd {ml : ML} {dps : List PV} (F : Facts X T φ k) (h : ∀ p s, GdR s (ml φ p s)) (p : Sl) (s : Sg) : GdR s (mCall x dps ml φ p s) := (h p s).bind fun vs s' _ => F.gd x _ s'
theorem pe_callG {f : Addr} {fd : FuncData} {ps : List Str} {sp : Sp} {ds : List Value} {dvs : List V} {E : L2.St → XK} {es : List Expr} {t : TA} (G : FnG X.prog X.w X.K X.mg X.base k f fd ps sp) (hr : RG k X.A) (hg : Gl X x) (hm : X.mg x = some (.ref f)) (hk : PySem.W.keepIn X.K (.ref f) = true) (hb : Binds X.K fd ps ds) (hd : Vals dvs ds) (hx : ∀ σ, PassesAt (L2.CX X.prog X.w) X σ (E σ))
    (ha : PA X (e :: es) t) (hdb : (x == ("__debug__" : Str)) = false) (he : starEach (e :: es) X.env = (false, eval e X.env) :: starEach es X.env) (hpl : (backTo pos (starEach es X.env)).any (·.1) = false) : PE X (.Call (.Name x p) (e :: es) [] pos) (fun σ H Q => t σ H fun vs H1 => sp (vs ++ dvs) H1 Q (E σ)) :=
  ⟨fun pins s σ H Q I h => wpAny_Call_Name_kw (ld_glob I hg hm (PySem.W.callWith_K (h₀ := X.base) I.ok.mod.kin hk (thn (ha.run pos pins s σ H _ I h) fun us s1 ⟨vs, H1, I1, r, q⟩ => ⟨I1.kIn, run_fnG G hr hb hd (hx σ) I1 r q⟩) he hpl) hdb)⟩
theorem sim_call {es : List Expr} {ml : ML} {dps : List PV} (F : Facts X T φ k) (hr : RG k X.A) (tk : Takes X W) (hf : T.fn x = true) {j : Nat} (hd : T.dfl x j = some dps) (hg : Gl X x) (hdb : (x == ("__debug__" : Str)) = false) (ha : SimA X W φ ml (e :: es))
    (he : starEach (e :: es) X.env = (false, eval e X.env) :: starEach es X.env) (hpl : (backTo pos (starEach es X.env)).any (·.1) = false) : Sim X W φ (mCall x dps ml) (.Call (.Name x p) (e :: es) [] pos) := by
  obtain ⟨f, hm, kp, ⟨n, fd, ps, G, hn, hb⟩⟩ := F.fn x hf
  obtain ⟨ds, dvs, B, hv, hrv, hdz⟩ := hb j dps hd
  refine Sim.mk1 (PE.imp (pe_callG (E := WE W) G hr hg hm kp B hv (fun σ => passAt tk σ) ha.pa hdb he hpl) fun σ H Q h => ?_) (fun _ => rfl) (mCall_gd F ha.gd)
  obtain ⟨ρ, p, s, rel, sr, h⟩ := h
  exact tA_seq rel sr h fun v s1 ρ1 H1 us e1 n1 b1 r1 sr1 h1 => sp_of (fd := fd) n1.rel b1 r1 hrv hdz hn h1
theorem sim_call0 {dps : List PV} (F : Facts X T φ k) (hr : RG k X.A) (tk : Takes X W) (hf : T.fn x = true) (hd : T.dfl x 0 = some dps) (hg : Gl X x) (hdb : (x == ("__debug__" : Str)) = false) : Sim X W φ (mCall x dps mNil) (.Call (.Name x p) [] [] pos) := by
  obtain ⟨f, hm, kp, ⟨n, fd, ps, G, hn, hb⟩⟩ := F.fn x hf
  obtain ⟨ds, dvs, B, hv, hrv, hdz⟩ := hb 0 dps hd
  refine Sim.mk1 ⟨fun pins s σ H Q I h => ?_⟩ (fun _ => rfl) (mCall_gd F fun p s => Gd.refl s)
  obtain ⟨ρ, p, s1, rel, sr, h⟩ := h
  refine PySem.wpAny_Call_Name_kw (ld_glob I hg hm ?_ hdb)
  exact PySem.W.callWith_K0 I.kIn kp (run_fnG (us := []) G hr B hv (passAt tk σ) I .nil (sp_of (fd := fd) rel (args := []) (vs := []) rfl .nil hrv hdz hn h))
/-! ### C(..) -/
/-- a new instance, then __init__ -/
def vMake (C : Str) (φ : Phi) (args : List PV) (s : Sg) : R PV :=
  (φ (qn C (Str.ofString "__init__")) (.ref s.g.length :: args) (s.push (.ins C []))).bind fun v s' => match v with | .non => .ok (.ref s.g.length) s' | _ => .bad
def mMake (C : Str) (dps : List PV) (ml : ML) : ME := fun φ p s => (ml φ p s).bind fun vs s => vMake C φ (vs ++ dps) s
theorem vMake_gd (F : Facts X T φ k) (C : Str) (args : List PV) (s : Sg) : GdR s (vMake C φ args s) := by
  have h1 := F.gd (qn C (Str.ofString "__init__")) (.ref s.g.length :: args) (s.push (.ins C []))
  have h2 : GdR s (φ (qn C (Str.ofString "__init__")) (.ref s.g.length :: args) (s.push (.ins C []))) := by
    cases e : φ (qn C (Str.ofString "__init__")) (.ref s.g.length :: args) (s.push (.ins C [])) with
    | ok v s' => rw [e] at h1; exact Gd.trans (Gd.push s _) h1
    | err D v s' => rw [e] at h1; exact Gd.trans (Gd.push s _) h1
    | bad => trivial
  refine h2.bind fun v s' _ => ?_
  split
  · exact Gd.refl s'
  · trivial
theorem make_sp {C : Str} {Ca : Addr} {n : Nat} {args dps : List PV} {vs dvs : List V} {H : Hp} {ρ : Nat → Addr} {s : Sg} {Q : VK} {σ : L2.St} (hC : X.mg C = some (.ref Ca)) (rel : Rel X.K X.mg ρ s H) (hb : args.all (PV.bd s.g.length) = true) (r : RVs X.K X.mg H ρ args vs)
    (hd : ∀ H ρ, RVs X.K X.mg H ρ dps dvs) (hdb : dps.all (PV.bd 0) = true) (hn : ∀ args s, φ (qn C (Str.ofString "__init__")) args s ≠ .bad → args.length = n) (h : PostE X.K X.mg W ρ s H σ Q (vMake C φ (args ++ dps) s)) (xa dx : Addr) (hx : H xa = none) (hdx : H dx = none) (hne : dx ≠ xa) :
    spPhi X.K X.mg φ (qn C (Str.ofString "__init__")) n (.ref xa :: (vs ++ dvs)) (upd (upd H dx (.own xa)) xa (.ins Ca dx [])) (fun v H2 => v = .non ∧ Q (.ref xa) H2) (WE W σ) := by
  have n1 := rel_other (u := .own xa) rel hdx
  have hx1 : (upd H dx (.own xa)) xa = none := by rw [upd_ne (Ne.symm hne)]; exact hx
  have n2 := n1.rel.push (o := .ins C []) (u := .ins Ca dx []) hx1 (by rfl) ⟨Ca, dx, [], hC, upd_same, .nil⟩
  have n3 := n1.trans n2
  have hargs : (args ++ dps).all (PV.bd s.g.length) = true := all_append hb (alls_mono (Nat.zero_le _) hdb)
  have hrv : RVs X.K X.mg H ρ (args ++ dps) (vs ++ dvs) := paired_append r (hd H ρ)
  unfold vMake at h
  refine ⟨_, s.push (.ins C []), .ref s.g.length :: (args ++ dps), n3.rel, ?_, .cons rv_ref_new (n3.rvs hrv hargs), ?_, ?_⟩
  · rw [List.all_cons, bd_ref_new, n3.bls hargs]
    rfl
  · refine hn _ (s.push (.ins C [])) fun z => ?_
    rw [z] at h
    exact h
  · cases e : φ (qn C (Str.ofString "__init__")) (.ref s.g.length :: (args ++ dps)) (s.push (.ins C [])) with
    | ok v s' =>
      rw [e] at h
      intro ρ' H' u n' ru
      cases v with
      | non =>
        obtain ⟨_, ru⟩ := ru
        cases ru
        refine ⟨rfl, h ρ' H' (.ref xa) (n3.trans n') ⟨n'.bl bd_ref_new, ?_⟩⟩
        exact n'.rv rv_ref_new bd_ref_new
      | _ => exact h.elim
    | err D v s' =>
      rw [e] at h
      exact fun ρ' H' Da dd u n' e1 e2 e3 e4 => h ρ' H' Da dd u (n3.trans n') e1 e2 e3 e4
    | bad => rw [e] at h; exact h
theorem run_makeS {pins : List (Addr × Obj)} {σ : L2.St} {H : Hp} {s : Shared} {Q : VK} {us ds : List Value} {vs dvs : List V} {C f : Addr} {fd : FuncData} {ps : List Str} {sp : Sp} {E : XK} (M : Mk X.K C f) (F : FnG X.prog X.w X.K X.mg X.base k f fd ps sp) (hr : RG (k + 1) X.A) (hb : Binds X.K fd ps ds) (hd : Vals dvs ds)
    (hx : ∀ pins H s e s', Inv X pins σ H s → L2.CX X.prog X.w X.stack H s E e s' → X.xe e s') (I : Inv X pins σ H s) (r : Vals vs us)
    (h : ∀ x dx, H x = none → H dx = none → dx ≠ x → sp (.ref x :: (vs ++ dvs)) (upd (upd H dx (.own x)) x (.ins C dx [])) (fun v H2 => v = .non ∧ Q (.ref x) H2) E) :
    wpAny (model X.prog X.w) X.A (call (.ref C) us) (EP X pins σ Q) X.xe s := by
  have hq := h (s.heap.objs.size + 1) s.heap.objs.size (I.hok.fresh (Nat.le_succ _)) (I.hok.fresh (Nat.le_refl _)) (Nat.ne_of_lt (Nat.lt_succ_self _))
  have I2 := Inv.made (C := C) I
  have r2 : Vals (V.ref (s.heap.objs.size + 1) :: (vs ++ dvs)) (Value.ref (s.heap.objs.size + 1) :: (us ++ ds)) := .cons rfl (r.append hd)
  have hl : (Value.ref (s.heap.objs.size + 1) :: us ++ ds).length = ps.length := by
    have e := r2.length
    rw [F.len _ _ _ _ hq] at e
    exact e.symm
  refine wpAny_call (make_map (f := f) I.kIn M.makes M.init (beq_iff_eq.mp M.fn) (codeAny_mono (F.run _ X.stack _ _ ⟨Value.ref (s.heap.objs.size + 1) :: us, []⟩ (Value.ref (s.heap.objs.size + 1) :: (us ++ ds)) _ _ E (hr.make C us [])
    (I2.env0.make C us []) (hb _ (Value.ref (s.heap.objs.size + 1) :: us) I2.kIn hl) r2 hq) fun r s' hq' => ?_))
  cases r with
  | error e => exact hx pins _ _ e s' I2 hq'
  | ok fl =>
    cases fl with
    | ret u =>
      obtain ⟨v, H', I3, rv, ev, q3⟩ := I2.after hq'
      subst ev
      exact ⟨rv, ⟨V.ref (s.heap.objs.size + 1), H', I3, rfl, q3⟩⟩
    | next => exact False.elim hq'
    | brk => exact False.elim hq'
    | cont => exact False.elim hq'
theorem sim_make {C : Str} {es : List Expr} {ml : ML} {dps : List PV} (F : Facts X T φ k) (hr : RG (k + 1) X.A) (tk : Takes X W) (hf : T.mkr C = true) {j : Nat} (hd : T.dfl (qn C (Str.ofString "__init__")) j = some dps) (hg : Gl X C) (hdb : (C == ("__debug__" : Str)) = false) (ha : SimA X W φ ml (e :: es))
    (he : starEach (e :: es) X.env = (false, eval e X.env) :: starEach es X.env) (hpl : (backTo pos (starEach es X.env)).any (·.1) = false) : Sim X W φ (mMake C dps ml) (.Call (.Name C p) (e :: es) [] pos) := by
  obtain ⟨Ca, f, hm, M, ⟨n, fd, ps, G, hn, hb⟩⟩ := F.mkr C hf
  obtain ⟨ds, dvs, B, hv, hrv, hdz⟩ := hb j dps hd
  refine Sim.mk1 ⟨fun pins s σ H Q I h => ?_⟩ (fun _ => rfl) fun p s => (ha.gd p s).bind fun vs s' _ => vMake_gd F C _ s'
  obtain ⟨ρ, p, sg, rel, sr, h⟩ := h
  refine PySem.wpAny_Call_Name_kw (ld_glob I hg hm ?_ hdb)
  refine PySem.W.callWith_K (h₀ := X.base) I.ok.mod.kin M.kp (thn (ha.pa.run pos pins s σ H _ I (tA_seq rel sr h (Q' := fun vs H1 => ∀ x dx, H1 x = none → H1 dx = none → dx ≠ x → spPhi X.K X.mg φ (qn C (Str.ofString "__init__")) n (.ref x :: (vs ++ dvs)) (upd (upd H1 dx (.own x)) x (.ins Ca dx [])) (fun v H2 => v = .non ∧ Q (.ref x) H2) (WE W σ))
    fun v s1 ρ1 H1 us e1 n1 b1 r1 sr1 h1 xa dx g1 g2 g3 => make_sp hm n1.rel b1 r1 hrv hdz hn h1 xa dx g1 g2 g3)) fun us s1 ⟨vs, H1, I1, r, q⟩ => ⟨I1.kIn, ?_⟩) he hpl
  exact run_makeS M G hr B hv (passAt tk σ) I1 r q
theorem sim_make0 {C : Str} {dps : List PV} (F : Facts X T φ k) (hr : RG (k + 1) X.A) (tk : Takes X W) (hf : T.mkr C = true) (hd : T.dfl (qn C (Str.ofString "__init__")) 1 = some dps) (hg : Gl X C) (hdb : (C == ("__debug__" : Str)) = false) : Sim X W φ (mMake C dps mNil) (.Call (.Name C p) [] [] pos) := by
  obtain ⟨Ca, f, hm, M, ⟨n, fd, ps, G, hn, hb⟩⟩ := F.mkr C hf
  obtain ⟨ds, dvs, B, hv, hrv, hdz⟩ := hb 1 dps hd
  refine Sim.mk1 ⟨fun pins s σ H Q I h => ?_⟩ (fun _ => rfl) fun p s => vMake_gd F C _ s
  obtain ⟨ρ, p, sg, rel, sr, h⟩ := h
  refine PySem.wpAny_Call_Name_kw (ld_glob I hg hm ?_ hdb)
  exact PySem.W.callWith_K0 I.kIn M.kp (run_makeS (us := []) (vs := []) M G hr B hv (passAt tk σ) I .nil fun xa dx g1 g2 g3 => make_sp (args := []) (vs := []) hm rel rfl .nil hrv hdz hn h xa dx g1 g2 g3)
/-! ### o.m(..) -/
def clsOf (v : PV) (s : Sg) : Option Str := match v with
  | .ref n => (match s.g[n]? with | some (.ins C _) => some C | _ => none)
  | _ => none
/-- the method of an own class, no attribute of that name -/
def vMeth (T : Tab) (m : Str) (v : PV) (s : Sg) : Option Str := match v with
  | .ref n => (match s.g[n]? with | some (.ins C fs) => if T.meth C m && (dGet fs m).isNone then some (qn C m) else none | _ => none)
  | _ => none
def mMeth (T : Tab) (dps : Str → List PV) (m : Str) (mo : ME) (ml : ML) : ME := fun φ p s => (mo φ p s).bind fun o s => match vMeth T m o s with
  | some q => (ml φ p s).bind fun vs s => φ q (o :: (vs ++ dps q)) s
  | none => .bad
theorem vMeth_of {v : PV} {u : V} {s : Sg} {H : Hp} {ρ : Nat → Addr} {mm q : Str} (F : Facts X T φ k) (rel : Rel X.K X.mg ρ s H) (r : RV X.K X.mg H ρ v u) (e : vMeth T mm v s = some q) :
    ∃ a C Ca dx fs f, u = .ref a ∧ H a = some (.ins Ca dx fs) ∧ fs.lookup mm = none ∧ Cls X.K Ca ∧ Meth X.K Ca mm f ∧ q = qn C mm ∧ FnF X T φ k q f ∧ T.meth C mm = true := by
  cases v with
  | ref n =>
    cases r
    unfold vMeth at e
    simp only at e
    cases e1 : s.g[n]? with
    | none => rw [e1] at e; cases e
    | some o =>
      rw [e1] at e
      cases o with
      | ins C fs =>
        simp only at e
        by_cases hc : (T.meth C mm && (dGet fs mm).isNone) = true
        · rw [if_pos hc] at e
          cases e
          obtain ⟨h1, h2⟩ := Bool.and_eq_true_iff.mp hc
          obtain ⟨Ca, dx, ws, g1, g2, g3⟩ := rel.cell n _ e1
          obtain ⟨cl, f, mt, ff⟩ := F.meth C mm Ca h1 g1
          refine ⟨ρ n, C, Ca, dx, ws, f, rfl, g2, ?_, cl, mt, rfl, ff, h1⟩
          have z := dGet_none mm g3
          rw [lookup_valV]
          have z2 : (dGet fs mm).isSome = false := by
            cases q : dGet fs mm with
            | none => rfl
            | some v => rw [q] at h2; cases h2
          rw [z2] at z
          cases q : valV ws mm with
          | none => exact q
          | some v => rw [q] at z; cases z
        · rw [if_neg hc] at e
          cases e
      | _ => cases e
  | _ => cases e
theorem mMeth_gd {mm : Str} {dps : Str → List PV} {ml : ML} (F : Facts X T φ k) (ho : ∀ p s, GdR s (m φ p s)) (ha : ∀ p s, GdR s (ml φ p s)) (p : Sl) (s : Sg) : GdR s (mMeth T dps mm m ml φ p s) := (ho p s).bind fun v s1 _ => by
  show GdR s1 (match vMeth T mm v s1 with
    | some q => (ml φ p s1).bind fun vs s => φ q (v :: (vs ++ dps q)) s
    | none => .bad)
  cases vMeth T mm v s1 with
  | none => trivial
  | some q => exact (ha p s1).bind fun vs s2 _ => F.gd q _ s2
theorem sim_meth {mm : Str} {dps : Str → List PV} {es : List Expr} {ml : ML} {j : Nat} (F : Facts X T φ k) (hr : RG k X.A) (tk : Takes X W) (ho : Sim X W φ m o) (ha : SimA X W φ ml (e :: es)) (hd : ∀ C, T.meth C mm = true → T.dfl (qn C mm) j = some (dps (qn C mm)))
    (hst : starEach (e :: es) X.env = (false, eval e X.env) :: starEach es X.env) (hpl : (backTo pos (starEach es X.env)).any (·.1) = false) {pl : Sem Bool}
    (ht : eval (.Call (.Attribute o mm apos) (e :: es) [] pos) X.env = (do
      let ov ← eval o X.env
      standAt apos.atName
      let (f, first) ← holding [ov] (getMethod ov mm pl)
      callWith pos f first (backTo pos (starEach (e :: es) X.env)) (backToKw pos (keywordEach [] X.env)))) : Sim X W φ (mMeth T dps mm m ml) (.Call (.Attribute o mm apos) (e :: es) [] pos) := by
  refine Sim.mk1 ⟨fun pins s σ H Q I h => ?_⟩ (fun _ => rfl) (mMeth_gd F ho.gd ha.gd)
  obtain ⟨ρ, p, sg, rel, sr, h⟩ := h
  refine PySem.W.methodCall_KW (pl := pl) (thn (ho.pe.run pins s σ H _ I (tE_seq rel sr h (Q' := fun u H1 => ∃ a C Ca dx fs f q n fd ps ds dvs, u = V.ref a ∧ H1 a = some (.ins Ca dx fs) ∧ fs.lookup mm = none ∧ Cls X.K Ca ∧ Meth X.K Ca mm f ∧ q = qn C mm ∧ Vals dvs ds ∧
      FnG X.prog X.w X.K X.mg X.base k f fd ps (spPhi X.K X.mg φ q n) ∧ Binds X.K fd ps ds ∧ tA X.K X.mg W φ ml σ H1 fun vs H2 => spPhi X.K X.mg φ q n (u :: (vs ++ dvs)) H2 Q (WE W σ)) ?_)) fun u s1 ⟨x, H1, I1, rx, q⟩ => ?_) ht
  · intro v s1 ρ1 H1 u e1 n1 b1 r1 sr1 h1
    cases e2 : vMeth T mm v s1 with
    | none => rw [e2] at h1; exact h1.elim
    | some q =>
      rw [e2] at h1
      obtain ⟨a, C, Ca, dx, fs, f, g1, g2, g3, g4, g5, g6, ⟨n, fd, ps, G, hn, hb⟩, hm⟩ := vMeth_of F n1.rel r1 e2
      have hd2 := hd C hm
      rw [← g6] at hd2
      obtain ⟨ds, dvs, B, hv, hrv, hdz⟩ := hb j _ hd2
      refine ⟨a, C, Ca, dx, fs, f, q, n, fd, ps, ds, dvs, g1, g2, g3, g4, g5, g6, hv, G, B, ?_⟩
      refine tA_seq n1.rel sr1 h1 fun vs s2 ρ2 H2 us e3 n2 b2 r2 sr2 h2 => ?_
      have hb3 : (v :: vs).all (PV.bd s2.g.length) = true := by
        rw [List.all_cons, n2.bl b1, b2]
        rfl
      exact sp_of (fd := fd) (args := v :: vs) (vs := u :: us) n2.rel hb3 (.cons (n2.rv r1 b1) r2) hrv hdz hn h2
  · obtain ⟨a, C, Ca, dx, fs, f, q', n, fd, ps, ds, dvs, ex, ea, l, cl, hm, g6, hv, G, B, q⟩ := q
    subst ex
    obtain rfl : u = Value.ref a := rx
    refine getmeth_ok I1 ea cl hm l ?_
    refine PySem.W.callWith_K (first := [.ref a]) (h₀ := X.base) I.ok.mod.kin hm.kp (thn (ha.pa.run pos pins s1 σ H1 _ I1 q) fun us s2 ⟨vs, H2, I2, r, q2⟩ => ⟨I2.kIn, ?_⟩) hst hpl
    exact run_fnG (E := WE W σ) (us := .ref a :: us) (vs := .ref a :: vs) G hr B hv (passAt tk σ) I2 (.cons rfl r) q2
theorem sim_meth0 {mm : Str} {dps : Str → List PV} (F : Facts X T φ k) (hr : RG k X.A) (tk : Takes X W) (ho : Sim X W φ m o) (hd : ∀ C, T.meth C mm = true → T.dfl (qn C mm) 1 = some (dps (qn C mm))) {pl : Sem Bool}
    (ht : eval (.Call (.Attribute o mm apos) [] [] pos) X.env = (do
      let ov ← eval o X.env
      standAt apos.atName
      let (f, first) ← holding [ov] (getMethod ov mm pl)
      callWith pos f first (backTo pos (starEach [] X.env)) (backToKw pos (keywordEach [] X.env)))) : Sim X W φ (mMeth T dps mm m mNil) (.Call (.Attribute o mm apos) [] [] pos) := by
  refine Sim.mk1 ⟨fun pins s σ H Q I h => ?_⟩ (fun _ => rfl) (mMeth_gd F ho.gd fun p s => Gd.refl s)
  obtain ⟨ρ, p, sg, rel, sr, h⟩ := h
  refine PySem.W.methodCall_KW (pl := pl) (thn (ho.pe.run pins s σ H _ I (tE_seq rel sr h (Q' := fun u H1 => ∃ a C Ca dx fs f q n fd ps ds dvs, u = V.ref a ∧ H1 a = some (.ins Ca dx fs) ∧ fs.lookup mm = none ∧ Cls X.K Ca ∧ Meth X.K Ca mm f ∧ q = qn C mm ∧ Vals dvs ds ∧
      FnG X.prog X.w X.K X.mg X.base k f fd ps (spPhi X.K X.mg φ q n) ∧ Binds X.K fd ps ds ∧ spPhi X.K X.mg φ q n (u :: dvs) H1 Q (WE W σ)) ?_)) fun u s1 ⟨x, H1, I1, rx, q⟩ => ?_) ht
  · intro v s1 ρ1 H1 u e1 n1 b1 r1 sr1 h1
    cases e2 : vMeth T mm v s1 with
    | none => rw [e2] at h1; exact h1.elim
    | some q =>
      rw [e2] at h1
      obtain ⟨a, C, Ca, dx, fs, f, g1, g2, g3, g4, g5, g6, ⟨n, fd, ps, G, hn, hb⟩, hm⟩ := vMeth_of F n1.rel r1 e2
      have hd2 := hd C hm
      rw [← g6] at hd2
      obtain ⟨ds, dvs, B, hv, hrv, hdz⟩ := hb 1 _ hd2
      refine ⟨a, C, Ca, dx, fs, f, q, n, fd, ps, ds, dvs, g1, g2, g3, g4, g5, g6, hv, G, B, ?_⟩
      have hb3 : [v].all (PV.bd s1.g.length) = true := by
        rw [List.all_cons, b1]
        rfl
      exact sp_of (fd := fd) (args := [v]) (vs := [u]) n1.rel hb3 (.cons r1 .nil) hrv hdz hn h1
  · obtain ⟨a, C, Ca, dx, fs, f, q', n, fd, ps, ds, dvs, ex, ea, l, cl, hm, g6, hv, G, B, q⟩ := q
    subst ex
    obtain rfl : u = Value.ref a := rx
    refine getmeth_ok I1 ea cl hm l ?_
    exact PySem.W.callWith_K0 (first := [.ref a]) I1.kIn hm.kp (run_fnG (E := WE W σ) (us := [.ref a]) (vs := [.ref a]) G hr B hv (passAt tk σ) I1 (.cons rfl .nil) q)
end
end Bi

end
section
set_option Elab.async false
set_option linter.all false
set_option autoImplicit false
set_option maxRecDepth 100000
set_option maxHeartbeats 1000000
/-! Bi5: attributes and properties, own len and in, built-ins by their values, f-strings. -/
namespace Bi
open PySem L2
def noErr {α : Type} : R α → R α
  | .ok v s => .ok v s
  | _ => .bad
@[simp] theorem noErr_ok {α : Type} (v : α) (s : Sg) : noErr (R.ok v s) = .ok v s := (rfl)
theorem noErr_gd {α : Type} {s : Sg} {r : R α} (h : GdR s r) : GdR s (noErr r) := by
  cases r with
  | ok v s' => exact h
  | _ => trivial
theorem post_noErr {α β : Type} {K : PySem.W.Frag} {mg : Str → Option Value} {RR : Hp → (Nat → Addr) → Sg → α → β → Prop} {W W' : WX} {ρ : Nat → Addr} {s : Sg} {H : Hp} {σ σ' : L2.St} {Q : β → Hp → Prop} {r : R α} (h : Post K mg RR W ρ s H σ Q (noErr r)) : Post K mg RR W' ρ s H σ' Q r := by
  cases r with
  | ok v s' => exact h
  | err C v s' => exact h.elim
  | bad => exact h
section
variable {X : Cx} {W : WX} {φ : Phi} {T : Tab} {k : Nat} {m ma mb mc : ME} {e a b c o : Expr} {pos p apos : Pos} {x : Str}
theorem sp_of0 {n : Nat} {args dps : List PV} {vs dvs : List V} {H : Hp} {ρ : Nat → Addr} {s : Sg} {Q : VK} {σ : L2.St} (rel : Rel X.K X.mg ρ s H) (hb : args.all (PV.bd s.g.length) = true) (r : RVs X.K X.mg H ρ args vs) (hd : ∀ H ρ, RVs X.K X.mg H ρ dps dvs) (hdb : dps.all (PV.bd 0) = true)
    (hn : ∀ args s, φ x args s ≠ .bad → args.length = n) (h : PostE X.K X.mg W ρ s H σ Q (noErr (φ x (args ++ dps) s))) : spPhi X.K X.mg φ x n (vs ++ dvs) H Q E0 :=
  ⟨ρ, s, args ++ dps, rel, all_append hb (alls_mono (Nat.zero_le _) hdb), paired_append r (hd H ρ), hn _ _ (post_nobad (post_noErr (W' := W) (σ' := σ) h)), post_noErr h⟩
/-- reading a property runs its getter -/
theorem propG {C q g a dx : Addr} {fs : List (Str × V)} {f : Str} {fd : FuncData} {ps : List Str} {sp : Sp} {dvs : List V} {ds : List Value} {pins : List (Addr × Obj)} {σ : L2.St} {H : Hp} {s : Shared} {Q : VK} {b : Bool} {E' : Value → Shared → Prop} (I : L2.Inv X pins σ H s) (ea : H a = some (.ins C dx fs)) (c : Cls X.K C) (hp : PropOf X.K C f q g)
    (G : FnG X.prog X.w X.K X.mg X.base k g fd ps sp) (hr : RG (k + 1) X.A) (hb : Binds X.K fd ps ds) (hd : Vals dvs ds) (h : sp (.ref a :: dvs) H Q E0) : wpAny (model X.prog X.w) X.A (getAttr (.ref a) f b) (EP X pins σ Q) E' s := by
  obtain ⟨_, O, _⟩ := ins_get I.hok ea
  obtain ⟨_, J, _⟩ := O.look
  obtain ⟨_, hrec⟩ := hp.rec_
  have hz : Vals (V.ref a :: dvs) (Value.ref a :: ds) := .cons rfl hd
  have hl := G.len _ _ _ _ h
  rw [hz.length] at hl
  have hc : (PySem.W.clsIn X.K C).isSome = true := by
    obtain ⟨_, hc, _⟩ := PySem.W.any_some c.hd
    rw [hc]; rfl
  have pg := PySem.W.plainGet_of (c.get f)
  have I1 := I.tok (s.toks + 1)
  refine PySem.W.get_bind I.kIn J pg.1 (PySem.W.findObj_data hc hp.at_ hp.get hp.tak) pg.2 (wpAny_call (PySem.W.prop_get (s := { s with toks := s.toks + 1 }) I.kIn hrec (codeAny_mono (G.run X.A.in1 X.stack { s with toks := s.toks + 1 } H ⟨[.ref a], []⟩ (.ref a :: ds) (.ref a :: dvs) Q E0 hr.in1 I1.env0.in1 (hb _ [.ref a] I1.kIn hl) hz h) fun r s' hq => ?_)))
  match r, hq with
  | .error er, hq => exact (passL (X := X.nox) pins σ H { s with toks := s.toks + 1 } er s' (I1.wish _) hq).elim
  | .ok (.ret u), hq =>
    obtain ⟨v, H', I3, rv, q3⟩ := I1.after hq
    show wpAny _ _ (handedOut u) _ _ _
    rw [PySem.W.handedOut_of (handed_of rv)]
    exact wpAny_pure ⟨v, H', I3, rv, q3⟩
  | .ok .next, hq => exact hq.elim
  | .ok .brk, hq => exact hq.elim
  | .ok .cont, hq => exact hq.elim
/-! ### o.f -/
def vAttr (T : Tab) (φ : Phi) (f : Str) (v : PV) (s : Sg) : R PV := match v with
  | .ref n => (match s.g[n]? with
    | some (.ins C fs) => if T.attr C f then opt (dGet fs f) s else if T.prop C f then noErr (φ (qn C f) [.ref n] s) else .bad
    | _ => .bad)
  | _ => .bad
def mAttr (T : Tab) (f : Str) (mo : ME) : ME := fun φ p s => (mo φ p s).bind (vAttr T φ f)
theorem vAttr_gd {f : Str} (F : Facts X T φ k) (v : PV) (s : Sg) : GdR s (vAttr T φ f v s) := by
  unfold vAttr
  split
  · split
    · split
      · exact opt_gd _ _
      · split
        · exact noErr_gd (F.gd _ _ _)
        · trivial
    · trivial
  · trivial
theorem ins_pv {fs : List (Str × PV)} {ws : List (Str × V)} {H : Hp} {ρ : Nat → Addr} {f : Str} {v : PV} {K : PySem.W.Frag} {mg : Str → Option Value} (r : RKs K mg H ρ fs ws) (e : dGet fs f = some v) : ∃ u, ws.lookup f = some u ∧ RV K mg H ρ v u ∧ ∃ q ∈ fs, q.2 = v := by
  obtain ⟨u, h1, h2, h3⟩ := dGet_rv f r v e
  exact ⟨u, by rw [lookup_valV]; exact h1, h2, h3⟩
theorem sim_attr {f : Str} (F : Facts X T φ k) (hr : RG (k + 1) X.A) (ho : Sim X W φ m o) (hab : attributeBase o f X.env (eval o X.env) = eval o X.env) (hdf : ∀ C, T.prop C f = true → T.dfl (qn C f) 1 = some []) : Sim X W φ (mAttr T f m) (.Attribute o f pos) := by
  refine Sim.mk1 ⟨fun pins s σ H Q I h => ?_⟩ (fun _ => rfl) fun p s => (ho.gd p s).bind fun v s' _ => vAttr_gd F v s'
  obtain ⟨ρ, p, sg, rel, sr, h⟩ := h
  refine attr_of hab (thn (ho.pe.run pins s σ H _ I (tE_seq rel sr h (Q' := fun u H1 => (∃ a Ca dx fs v, u = V.ref a ∧ H1 a = some (.ins Ca dx fs) ∧ Cls X.K Ca ∧ NoAttr X.K Ca f ∧ fs.lookup f = some v ∧ Q v H1) ∨
      ∃ a Ca dx fs q n pp g fd ps ds dvs, u = V.ref a ∧ H1 a = some (.ins Ca dx fs) ∧ Cls X.K Ca ∧ PropOf X.K Ca f pp g ∧ Vals dvs ds ∧ FnG X.prog X.w X.K X.mg X.base k g fd ps (spPhi X.K X.mg φ q n) ∧ Binds X.K fd ps ds ∧ spPhi X.K X.mg φ q n (.ref a :: dvs) H1 Q E0) ?_)) fun u s1 ⟨x, H1, I1, rx, q⟩ => ?_)
  · intro v s1 ρ1 H1 u e1 n1 b1 r1 sr1 h1
    cases v with
    | ref n =>
      cases r1
      unfold vAttr at h1
      simp only at h1
      cases e2 : s1.g[n]? with
      | none => rw [e2] at h1; exact h1.elim
      | some ob =>
        rw [e2] at h1
        cases ob with
        | ins C fs =>
          simp only at h1
          obtain ⟨Ca, dx, ws, g1, g2, g3⟩ := n1.rel.cell n _ e2
          by_cases ha : T.attr C f = true
          · rw [if_pos ha] at h1
            unfold opt at h1
            cases e3 : dGet fs f with
            | none => rw [e3] at h1; exact h1.elim
            | some v =>
              rw [e3] at h1
              obtain ⟨u, h2, h3, q, h4, h5⟩ := ins_pv g3 e3
              obtain ⟨c1, c2⟩ := F.attr C f Ca ha g1
              refine .inl ⟨ρ1 n, Ca, dx, ws, u, rfl, g2, c1, c2, h2, post_ok h1 (Nx.refl n1.rel) ?_ h3⟩
              rw [← h5]
              exact List.all_eq_true.mp (n1.rel.wf n _ e2) q h4
          · rw [if_neg ha] at h1
            by_cases hp : T.prop C f = true
            · rw [if_pos hp] at h1
              obtain ⟨c1, pp, g, c2, ⟨n', fd, ps, G, hn, hb⟩⟩ := F.prop C f Ca hp g1
              obtain ⟨ds, dvs, B, hv, hrv, hdz⟩ := hb 1 _ (hdf C hp)
              refine .inr ⟨ρ1 n, Ca, dx, ws, qn C f, n', pp, g, fd, ps, ds, dvs, rfl, g2, c1, c2, hv, G, B, ?_⟩
              exact sp_of0 (args := [.ref n]) (vs := [.ref (ρ1 n)]) n1.rel (by rw [List.all_cons, b1]; rfl) (.cons (.ref n) .nil) hrv hdz hn h1
            · rw [if_neg hp] at h1
              exact h1.elim
        | _ => exact h1.elim
    | _ => exact h1.elim
  · rcases q with ⟨a, Ca, dx, fs, v, ex, ea, c1, c2, l, q⟩ | ⟨a, Ca, dx, fs, q', n, pp, g, fd, ps, ds, dvs, ex, ea, c1, c2, hv, G, B, q⟩
    · subst ex
      obtain rfl : u = Value.ref a := rx
      exact getattr_ok I1 ea c1 c2 l fun u' s2 I2 ru => ⟨v, H1, I2, ru, q⟩
    · subst ex
      obtain rfl : u = Value.ref a := rx
      exact propG I1 ea c1 c2 G hr B hv q
end
/-! ### own len, own in -/
/-- the class's special method at f -/
structure SpcOk (K : PySem.W.Frag) (C : Addr) (m : Str) (f : Addr) : Prop where
  at_ : PySem.W.findIn K (.ref C) m = some (some (.ref f))
  fn : PySem.W.isFn K (.ref f) = true
section
variable {X : Cx} {k : Nat}
theorem call_lenOwn {sp : Sp} {C f : Addr} {fd : FuncData} {ps : List Str} (c : Cls X.K C) (S : SpcOk X.K C (Str.ofString "__len__") f) (G : FnG X.prog X.w X.K X.mg X.base k f fd ps sp) (hr : RG (k + 1) X.A) (B : Binds X.K fd ps []) :
    CallR X (.builtin "len") (fun xs H Q => ∃ a dx fs, xs = [V.ref a] ∧ H a = some (.ins C dx fs) ∧ sp [.ref a] H (fun v H' => ∃ i : Int, v = .int i ∧ 0 ≤ i ∧ i < 2 ^ 63 ∧ Q (.int i) H') E0) := by
  intro pins s σ H xs us Q I r h
  obtain ⟨a, dx, fs, rfl, ea, q⟩ := h
  obtain ⟨u, rfl, ru⟩ := vals1 r
  obtain rfl : u = Value.ref a := ru
  obtain ⟨mA, O, _, _, _, _⟩ := ins_get I.hok ea
  obtain ⟨od, J, _⟩ := O.look
  obtain ⟨m, F⟩ := I.fr
  have hl : ([Value.ref a] ++ []).length = ps.length := by
    rw [← G.len _ _ _ _ q]
    rfl
  refine PySem.W.len_K F I.ok.mod.kin J S.at_ S.fn (wpAny_call ?_)
  refine codeAny_mono (G.run X.A.in1 X.stack s H ⟨[.ref a], []⟩ ([.ref a] ++ []) [.ref a] _ E0 hr.in1 I.env0.in1 (B _ [.ref a] I.kIn hl) (show Vals [V.ref a] ([Value.ref a] ++ []) from .cons (show RelV (V.ref a) (Value.ref a) from rfl) .nil) q) fun r s' hq => ?_
  cases r with
  | error er => exact False.elim (passL (X := X.nox) pins σ H s er s' (I.wish _) hq)
  | ok fl =>
    cases fl with
    | ret u =>
      obtain ⟨v, H', I3, rv, i, e, h0, h1, q3⟩ := I.after hq
      subst e
      obtain ⟨t, rfl⟩ := rv
      exact ⟨⟨h0, h1⟩, .int i, H', I3.tok _, ⟨_, rfl⟩, q3⟩
    | next => exact False.elim hq
    | brk => exact False.elim hq
    | cont => exact False.elim hq
theorem run_fn0 {sp : Sp} {f : Addr} {fd : FuncData} {ps : List Str} {pins : List (Addr × Obj)} {σ : L2.St} {H : Hp} {s : Shared} {Q : VK} {us : List Value} {vs : List V} (G : FnG X.prog X.w X.K X.mg X.base k f fd ps sp) (hr : RG k X.A) (B : Binds X.K fd ps [])
    (I : L2.Inv X pins σ H s) (r : Vals vs us) (h : sp vs H Q E0) : wpAny (model X.prog X.w) X.A (call (.ref f) us) (EP X pins σ Q) X.xe s :=
  run_fnG (E := E0) (dvs := []) G hr B .nil (fun pins H s e s' I c => passL pins σ H s e s' I c) I r (by rw [List.append_nil]; exact h)
theorem op_inOwn {sp : Sp} {C f : Addr} {fd : FuncData} {ps : List Str} (c : Cls X.K C) (S : SpcOk X.K C (Str.ofString "__contains__") f) (G : FnG X.prog X.w X.K X.mg X.base k f fd ps sp) (hr : RG k X.A) (B : Binds X.K fd ps []) :
    OpR X (compareOp .In) (fun y x H Q => ∃ a dx fs, x = V.ref a ∧ H a = some (.ins C dx fs) ∧ sp [.ref a, y] H (fun v H' => ∃ b : Bool, v = .bl b ∧ Q (.bl b) H') E0) := by
  intro pins s σ H y x v u Q I ry rx h
  obtain ⟨a, dx, fs, rfl, ea, q⟩ := h
  obtain rfl : u = Value.ref a := rx
  obtain ⟨mA, O, _, _, _, _⟩ := ins_get I.hok ea
  obtain ⟨od, J, _⟩ := O.look
  obtain ⟨m, F⟩ := I.fr
  refine PySem.W.in_K F I.ok.mod.kin J S.at_ S.fn (thn (run_fn0 (us := [.ref a, v]) (vs := [.ref a, y]) G hr B I (.cons (show RelV (V.ref a) (Value.ref a) from rfl) (.cons ry .nil)) q) fun r s' ⟨w, H', I', rw', b, e, q'⟩ => ?_)
  subst e
  cases rw'
  exact wpAny_truthy_bool ⟨.bl b, H', I', rfl, q'⟩
theorem op_notInOwn {sp : Sp} {C f : Addr} {fd : FuncData} {ps : List Str} (c : Cls X.K C) (S : SpcOk X.K C (Str.ofString "__contains__") f) (G : FnG X.prog X.w X.K X.mg X.base k f fd ps sp) (hr : RG k X.A) (B : Binds X.K fd ps []) :
    OpR X (compareOp .NotIn) (fun y x H Q => ∃ a dx fs, x = V.ref a ∧ H a = some (.ins C dx fs) ∧ sp [.ref a, y] H (fun v H' => ∃ b : Bool, v = .bl b ∧ Q (.bl (!b)) H') E0) := by
  intro pins s σ H y x v u Q I ry rx h
  obtain ⟨a, dx, fs, rfl, ea, q⟩ := h
  obtain rfl : u = Value.ref a := rx
  obtain ⟨mA, O, _, _, _, _⟩ := ins_get I.hok ea
  obtain ⟨od, J, _⟩ := O.look
  obtain ⟨m, F⟩ := I.fr
  refine PySem.W.notIn_K F I.ok.mod.kin J S.at_ S.fn (thn (run_fn0 (us := [.ref a, v]) (vs := [.ref a, y]) G hr B I (.cons (show RelV (V.ref a) (Value.ref a) from rfl) (.cons ry .nil)) q) fun r s' ⟨w, H', I', rw', b, e, q'⟩ => ?_)
  subst e
  cases rw'
  exact wpAny_truthy_bool ⟨.bl (!b), H', I', rfl, q'⟩
end

/-! ### built-ins by their values -/
structure VRL (K : PySem.W.Frag) (mg : Str → Option Value) (f : List PV → Sg → R PV) (r : List V → Hp → VK → Prop) : Prop where
  run : ∀ (W : WX) (ρ : Nat → Addr) (s : Sg) (H : Hp) (σ : L2.St) (a : List PV) (x : List V) (Q : VK), Rel K mg ρ s H → a.all (PV.bd s.g.length) = true → RVs K mg H ρ a x → PostE K mg W ρ s H σ Q (f a s) → r x H Q
  gd : ∀ a s, GdR s (f a s)
def mB (f : List PV → Sg → R PV) (ml : ML) : ME := fun φ p s => (ml φ p s).bind f
section
variable {X : Cx} {W : WX} {φ : Phi} {T : Tab} {k : Nat} {m ma mb mc : ME} {e a b c o : Expr} {pos p apos : Pos} {x : Str}
theorem tCB_of {f : List PV → Sg → R PV} {r : List V → Hp → VK → Prop} {ml : ML} (hf : VRL X.K X.mg f r) {σ : L2.St} {H : Hp} {Q : VK} (h : tE X.K X.mg W φ (mB f ml) σ H Q) : tCB r (tA X.K X.mg W φ ml) σ H Q := by
  obtain ⟨ρ, p, s, rel, sr, h⟩ := h
  exact tA_seq rel sr h fun v s1 ρ1 H1 us e1 n1 b1 r1 sr1 h1 => hf.run W ρ1 s1 H1 σ v us Q n1.rel b1 r1 h1
theorem sim_callB {es : List Expr} {ml : ML} {id : String} {f : List PV → Sg → R PV} {r : List V → Hp → VK → Prop} (hc : CallR X (.builtin id) r) (hf : VRL X.K X.mg f r) (hg : Gl X x) (hm : X.mg x = none) (hv : bootBuiltins x = some (.builtin id)) (ha : SimA X W φ ml (e :: es)) (hn : x ≠ "__name__") (hdb : (x == ("__debug__" : Str)) = false)
    (he : starEach (e :: es) X.env = (false, eval e X.env) :: starEach es X.env) (hpl : (backTo pos (starEach es X.env)).any (·.1) = false) : Sim X W φ (mB f ml) (.Call (.Name x p) (e :: es) [] pos) :=
  Sim.mk1 (PE.imp (pe_callB hc hg hm hv ha.pa hn hdb he hpl) fun σ H Q h => tCB_of hf h) (fun _ => rfl) fun p s => (ha.gd p s).bind fun v s' _ => hf.gd v s'
theorem sim_callTy {es : List Expr} {ml : ML} {id : String} {f : List PV → Sg → R PV} {r : List V → Hp → VK → Prop} (hc : CallR X (.type id) r) (hf : VRL X.K X.mg f r) (hg : Gl X x) (hm : X.mg x = none) (hv : bootBuiltins x = some (.type id)) (ha : SimA X W φ ml (e :: es)) (hn : x ≠ "__name__") (hdb : (x == ("__debug__" : Str)) = false)
    (he : starEach (e :: es) X.env = (false, eval e X.env) :: starEach es X.env) (hpl : (backTo pos (starEach es X.env)).any (·.1) = false) : Sim X W φ (mB f ml) (.Call (.Name x p) (e :: es) [] pos) :=
  Sim.mk1 (PE.imp (pe_callTy hc hg hm hv ha.pa hn hdb he hpl) fun σ H Q h => tCB_of hf h) (fun _ => rfl) fun p s => (ha.gd p s).bind fun v s' _ => hf.gd v s'
/-- a built-in type's method -/
structure VRM (K : PySem.W.Frag) (mg : Str → Option Value) (f : PV → List PV → Sg → R PV) (r : V → List V → Hp → VK → Prop) : Prop where
  run : ∀ (W : WX) (ρ : Nat → Addr) (s : Sg) (H : Hp) (σ : L2.St) (o : PV) (z : V) (a : List PV) (x : List V) (Q : VK), Rel K mg ρ s H → o.bd s.g.length = true → a.all (PV.bd s.g.length) = true → RV K mg H ρ o z → RVs K mg H ρ a x → PostE K mg W ρ s H σ Q (f o a s) → r z x H Q
  gd : ∀ o a s, GdR s (f o a s)
/-- the kinds of receivers -/
def kdLst (v : PV) (s : Sg) : Bool := match v with | .ref n => (match s.g[n]? with | some (.lst _) => true | _ => false) | _ => false
def kdDic (v : PV) (s : Sg) : Bool := match v with | .ref n => (match s.g[n]? with | some (.dic _ false) => true | _ => false) | _ => false
def kdStr (v : PV) (_ : Sg) : Bool := match v with | .str _ => true | _ => false
structure KdOk (K : PySem.W.Frag) (mg : Str → Option Value) (kd : PV → Sg → Bool) (T : String) : Prop where
  run : ∀ (ρ : Nat → Addr) (s : Sg) (H : Hp) (o : PV) (z : V), Rel K mg ρ s H → RV K mg H ρ o z → kd o s = true → tyV K T z H
theorem kd_lst {K : PySem.W.Frag} {mg : Str → Option Value} : KdOk K mg kdLst "list" where
  run := fun ρ s H o z rel r h => by
    cases o with
    | ref n =>
      cases r
      unfold kdLst at h
      simp only at h
      cases e : s.g[n]? with
      | none => rw [e] at h; cases h
      | some ob =>
        rw [e] at h
        cases ob with
        | lst xs => obtain ⟨us, q, _⟩ := rel.cell n _ e; exact .inl ⟨rfl, us, SqL.of q⟩
        | _ => cases h
    | _ => cases h
theorem kd_dic {K : PySem.W.Frag} {mg : Str → Option Value} : KdOk K mg kdDic "dict" where
  run := fun ρ s H o z rel r h => by
    cases o with
    | ref n =>
      cases r
      unfold kdDic at h
      simp only at h
      cases e : s.g[n]? with
      | none => rw [e] at h; cases h
      | some ob =>
        rw [e] at h
        cases ob with
        | dic kvs lk =>
          cases lk with
          | false => obtain ⟨us, q, _⟩ := rel.cell n _ e; exact .inr (.inr (.inl ⟨rfl, .inl ⟨us, q⟩⟩))
          | true => cases h
        | _ => cases h
    | _ => cases h
theorem kd_str {K : PySem.W.Frag} {mg : Str → Option Value} : KdOk K mg kdStr "str" where
  run := fun ρ s H o z rel r h => by
    cases o with
    | str x => cases r; rfl
    | _ => cases h
def mBM (kd : PV → Sg → Bool) (f : PV → List PV → Sg → R PV) (mo : ME) (ml : ML) : ME := fun φ p s => (mo φ p s).bind fun o s => if kd o s then (ml φ p s).bind fun vs s => f o vs s else .bad
theorem mBM_gd {kd : PV → Sg → Bool} {f : PV → List PV → Sg → R PV} {ml : ML} (h1 : ∀ p s, GdR s (m φ p s)) (h2 : ∀ p s, GdR s (ml φ p s)) (h3 : ∀ o a s, GdR s (f o a s)) (p : Sl) (s : Sg) : GdR s (mBM kd f m ml φ p s) := (h1 p s).bind fun v s1 _ => by
  show GdR s1 (if kd v s1 then (ml φ p s1).bind fun vs s => f v vs s else .bad)
  split
  · exact (h2 p s1).bind fun vs s2 _ => h3 v vs s2
  · trivial
theorem sim_bm {kd : PV → Sg → Bool} {es : List Expr} {ml : ML} {Ty id : String} {f : PV → List PV → Sg → R PV} {r : V → List V → Hp → VK → Prop} {name : Str} (pa : PlainAttrs Ty) (slot : Slot Ty name id) (hty : typeOf (.builtin id) = pure (.type "method_descriptor")) (hm : MtR X id r) (hk : KdOk X.K X.mg kd Ty) (hf : VRM X.K X.mg f r)
    (ho : Sim X W φ m o) (ha : SimA X W φ ml (e :: es)) (hbase : attributeBase o name X.env (eval o X.env) = eval o X.env)
    (hfew : ((backTo pos (starEach (e :: es) X.env)).all (fun x => !x.1) && (backToKw pos (keywordEach [] X.env)).all (fun x => x.1.isSome)
      && decide ((e :: es).length + ([] : List Keyword).length + (if ([] : List Keyword).isEmpty then 0 else 1) < 30)) = true)
    (hline : (apos.endLine == pos.line) = true) (hs : starEach (e :: es) X.env = (false, eval e X.env) :: starEach es X.env) (hplain : (backTo pos (starEach es X.env)).any (·.1) = false) : Sim X W φ (mBM kd f m ml) (.Call (.Attribute o name apos) (e :: es) [] pos) := by
  refine Sim.mk1 (PE.imp (pe_bm pa slot hty hm ho.pe ha.pa hbase hfew hline hs hplain) fun σ H Q h => ?_) (fun _ => rfl) (mBM_gd ho.gd ha.gd hf.gd)
  obtain ⟨ρ, p, s, rel, sr, h⟩ := h
  refine tE_seq rel sr h fun v s1 ρ1 H1 u e1 n1 b1 r1 sr1 h1 => ?_
  by_cases hk1 : kd v s1 = true
  · rw [if_pos hk1] at h1
    refine ⟨hk.run ρ1 s1 H1 v u n1.rel r1 hk1, ?_⟩
    exact tA_seq n1.rel sr1 h1 fun w s2 ρ2 H2 us e2 n2 b2 r2 sr2 h2 => hf.run W ρ2 s2 H2 σ v u w us Q n2.rel (n2.bl b1) b2 (n2.rv r1 b1) r2 h2
  · rw [if_neg hk1] at h1
    exact h1.elim
theorem sim_bm0 {kd : PV → Sg → Bool} {Ty id : String} {f : PV → List PV → Sg → R PV} {r : V → List V → Hp → VK → Prop} {name : Str} (pa : PlainAttrs Ty) (slot : Slot Ty name id) (hty : typeOf (.builtin id) = pure (.type "method_descriptor")) (hm : MtR X id r) (hk : KdOk X.K X.mg kd Ty) (hf : VRM X.K X.mg f r)
    (ho : Sim X W φ m o) (hbase : attributeBase o name X.env (eval o X.env) = eval o X.env) (hline : (apos.endLine == pos.line) = true) : Sim X W φ (mBM kd f m mNil) (.Call (.Attribute o name apos) [] [] pos) := by
  refine Sim.mk1 (PE.imp (pe_bm0 pa slot hty hm ho.pe hbase hline) fun σ H Q h => ?_) (fun _ => rfl) (mBM_gd ho.gd (fun p s => Gd.refl s) hf.gd)
  obtain ⟨ρ, p, s, rel, sr, h⟩ := h
  refine tE_seq rel sr h fun v s1 ρ1 H1 u e1 n1 b1 r1 sr1 h1 => ?_
  by_cases hk1 : kd v s1 = true
  · rw [if_pos hk1] at h1
    exact ⟨hk.run ρ1 s1 H1 v u n1.rel r1 hk1, hf.run W ρ1 s1 H1 σ v u [] [] Q n1.rel b1 rfl r1 .nil h1⟩
  · rw [if_neg hk1] at h1
    exact h1.elim

/-! ### f-strings -/
def mFmt (ma : ME) : ME := fun φ p s => (ma φ p s).bind fun v s => match v with
  | .str y => if y.length ≤ sizeLine then .ok (.str y) s else .bad
  | .int i => if ok255 i then .ok (.str (Str.ofString (toString i))) s else .bad
  | _ => .bad
theorem log_1920 {i : Int} (h : (decide (-(2 ^ 255) < i) && decide (i < 2 ^ 255)) = true) : i.natAbs.log2 < 1920 := by
  obtain ⟨h1, h2⟩ := Bool.and_eq_true_iff.mp h
  have g3 := of_decide_eq_true h1
  have g4 := of_decide_eq_true h2
  have hn : i.natAbs < 2 ^ 255 := by
    have e1 : (2 ^ 255 : Int) = ((2 ^ 255 : Nat) : Int) := by norm_cast
    rw [e1] at g3 g4
    omega
  have := PySem.Flt.log2_lt_of (by decide : 0 < 255) hn
  omega
theorem sim_fmt (ha : Sim X W φ ma a) : Sim X W φ (mFmt ma) (.FormattedValue a (-1) none pos) := by
  refine Sim.mk1 (PE.imp (pe_fmt ha.pe) fun σ H Q h => ?_) (fun _ => rfl) fun p s => (ha.gd p s).bind fun v s' _ => ?_
  · obtain ⟨ρ, p, s, rel, sr, h⟩ := h
    refine tE_seq rel sr h fun v s1 ρ1 H1 u e1 n1 b1 r1 sr1 h1 => ?_
    cases v with
    | str y =>
      cases r1
      simp only at h1
      by_cases hz : y.length ≤ sizeLine
      · rw [if_pos hz] at h1
        exact .inl ⟨y, rfl, hz, post_ok h1 (Nx.refl n1.rel) (by rw [PV.bd]) (.str _)⟩
      · rw [if_neg hz] at h1; exact h1.elim
    | int i =>
      cases r1
      simp only at h1
      by_cases hz : ok255 i = true
      · rw [if_pos hz] at h1
        exact .inr ⟨i, rfl, log_1920 (ok255_of hz), post_ok h1 (Nx.refl n1.rel) (by rw [PV.bd]) (.str _)⟩
      · rw [if_neg hz] at h1; exact h1.elim
    | _ => exact h1.elim
  · split
    · split
      · exact Gd.refl _
      · trivial
    · split
      · exact Gd.refl _
      · trivial
    · trivial
/-- the parts of an f-string -/
def mJoins : List ME → Str → Phi → Sl → Sg → R PV
  | [], acc, _, _, s => .ok (.str acc) s
  | m :: ms, acc, φ, p, s => (m φ p s).bind fun v s => match v with
    | .str y => if (acc ++ y).length ≤ sizeLine then mJoins ms (acc ++ y) φ p s else .bad
    | _ => .bad
def mFstr (ms : List ME) : ME := mJoins ms Str.empty
inductive SimJ (X : Cx) (W : WX) (φ : Phi) : List ME → List Expr → Prop where
  | nil : SimJ X W φ [] []
  | cons {m : ME} {e : Expr} {ms : List ME} {es : List Expr} (h : Sim X W φ m e) (r : SimJ X W φ ms es) : SimJ X W φ (m :: ms) (e :: es)
theorem SimJ.pj : ∀ {ms : List ME} {es : List Expr}, SimJ X W φ ms es → PJ X es (ms.map fun m => tE X.K X.mg W φ m)
  | _, _, .nil => .nil
  | _, _, .cons h r => .cons h.pe r.pj
theorem joins_gd : ∀ {ms : List ME} {es : List Expr}, SimJ X W φ ms es → ∀ (acc : Str) (p : Sl) (s : Sg), GdR s (mJoins ms acc φ p s)
  | _, _, .nil, acc, p, s => Gd.refl s
  | _, _, .cons h r, acc, p, s => (h.gd p s).bind fun v s' _ => by
    split
    · split
      · exact joins_gd r _ p s'
      · trivial
    · trivial
theorem tJs_of {σ : L2.St} {Q : VK} {p : Sl} : ∀ (ms : List ME) (acc : Str) (ρ : Nat → Addr) (s : Sg) (H : Hp), Rel X.K X.mg ρ s H → SRel X.K X.mg ρ s H p σ → PostE X.K X.mg W ρ s H σ Q (mJoins ms acc φ p s) → tJs (ms.map fun m => tE X.K X.mg W φ m) acc σ H fun out H1 => Q (.str out) H1
  | [], acc, ρ, s, H, rel, sr, h => post_ok h (Nx.refl rel) (by rw [PV.bd]) (.str _)
  | m :: ms, acc, ρ, s, H, rel, sr, h => by
    refine tE_seq rel sr h fun v s1 ρ1 H1 u e1 n1 b1 r1 sr1 h1 => ?_
    cases v with
    | str y =>
      cases r1
      simp only at h1
      by_cases hz : (acc ++ y).length ≤ sizeLine
      · rw [if_pos hz] at h1
        exact ⟨y, rfl, hz, tJs_of ms (acc ++ y) ρ1 s1 H1 n1.rel sr1 h1⟩
      · rw [if_neg hz] at h1; exact h1.elim
    | _ => exact h1.elim
theorem sim_fstr {v1 v2 : Expr} {rest : List Expr} {ms : List ME} (h : SimJ X W φ ms (v1 :: v2 :: rest)) : Sim X W φ (mFstr ms) (.JoinedStr (v1 :: v2 :: rest) pos) := by
  refine Sim.mk1 (PE.imp (pe_joined h.pj) fun σ H Q q => ?_) (fun _ => rfl) fun p s => joins_gd h Str.empty p s
  obtain ⟨ρ, p, s, rel, sr, q⟩ := q
  exact tJs_of ms Str.empty ρ s H rel sr q
end
end Bi

end
section
set_option Elab.async false
set_option linter.all false
set_option autoImplicit false
set_option maxRecDepth 100000
set_option maxHeartbeats 1000000
/-! BiT: sorted(t), max(t), min(t) of a tuple of ints. -/
namespace BiT
open PySem PyProof.Rows
section
variable {prog : Program} {w : World} {A : Around} {E : Value → Shared → Prop} {s : Shared} {l : Addr}
theorem kept_t {h' : Heap} (hk : ∀ b o, b ∉ [s.heap.objs.size] → (s.heap.push { cls := .type "tuple_iterator", data := .fields #[.ref l, .int 0 0] }).get? b = some o → h'.get? b = some o) :
    ∀ b o, s.heap.get? b = some o → h'.get? b = some o := fun b o e => by
  refine hk b o (fun hm => ?_) (Heap.get?_push_of_some _ e)
  rcases List.mem_cons.mp hm with e1 | hm
  · exact absurd (e1 ▸ Heap.lt_size e) (Nat.lt_irrefl _)
  · cases hm
theorem fp_t (hlt : l < s.heap.objs.size) : ∀ b ∈ [s.heap.objs.size, l], b < (s.heap.push { cls := .type "tuple_iterator", data := .fields #[.ref l, .int 0 0] }).objs.size := fun b hb => by
  rw [Heap.size_push]
  rcases List.mem_cons.mp hb with rfl | hb
  · exact Nat.lt_succ_self _
  · rcases List.mem_cons.mp hb with rfl | hb
    · exact Nat.lt_succ_of_lt hlt
    · cases hb
theorem max_t {xs : Array (Int × Tok)} {Q : Value → Shared → Prop} (hh : A.handled = none) (hl : s.heap.IsTuple l (intItems xs)) (hne : 0 < xs.size)
    (h : ∀ v h' tk, (intItems xs)[argBest (fun i j => decide (numAt xs i > numAt xs j)) (xs.size - 1)]? = some v → (∀ b o, s.heap.get? b = some o → h'.get? b = some o) → Q v { s with heap := h', toks := tk }) :
    wpAny (model prog w) A (call (.builtin "max") [.ref l]) Q E s := by
  have hlt : l < s.heap.objs.size := by obtain ⟨_, e, _⟩ := hl; exact Heap.lt_size e
  refine call_max_walk (wpAny_pyIter_tuple hl ?_)
  exact ⟨_, [_, l], [_], _, _, _, _, rfl, Walks.tuple (A := A.in1) hh _ l (Nat.ne_of_lt hlt) (intItems xs), ⟨⟨_, Heap.get?_push_size _ rfl, rfl, rfl⟩, hl.push _⟩, fp_t hlt, by simpa [intItems] using hne, CmpOf.ints_gt (numAt xs) (fun _ _ => intItems_at),
    fun v h' tk hP hk => h v h' tk (by simpa [intItems] using hP) (kept_t hk)⟩
theorem min_t {xs : Array (Int × Tok)} {Q : Value → Shared → Prop} (hh : A.handled = none) (hl : s.heap.IsTuple l (intItems xs)) (hne : 0 < xs.size)
    (h : ∀ v h' tk, (intItems xs)[argBest (fun i j => decide (numAt xs i < numAt xs j)) (xs.size - 1)]? = some v → (∀ b o, s.heap.get? b = some o → h'.get? b = some o) → Q v { s with heap := h', toks := tk }) :
    wpAny (model prog w) A (call (.builtin "min") [.ref l]) Q E s := by
  have hlt : l < s.heap.objs.size := by obtain ⟨_, e, _⟩ := hl; exact Heap.lt_size e
  refine call_min_walk (wpAny_pyIter_tuple hl ?_)
  exact ⟨_, [_, l], [_], _, _, _, _, rfl, Walks.tuple (A := A.in1) hh _ l (Nat.ne_of_lt hlt) (intItems xs), ⟨⟨_, Heap.get?_push_size _ rfl, rfl, rfl⟩, hl.push _⟩, fp_t hlt, by simpa [intItems] using hne, CmpOf.ints_lt (numAt xs) (fun _ _ => intItems_at),
    fun v h' tk hP hk => h v h' tk (by simpa [intItems] using hP) (kept_t hk)⟩
theorem collect_t {vs : List Value} {Q : List Value → Shared → Prop} (hl : s.heap.IsTuple l vs.toArray)
    (h : Q vs { s with heap := (s.heap.push (seqObj "list" #[] 0)).update s.heap.objs.size (Obj.mapSeq (· ++ vs.toArray)) }) (hsz : vs.length ≤ sizeLine) :
    wpAny (model prog w) A (collect (.ref l)) Q E s := by
  obtain ⟨o, ho, hc, n, hd⟩ := id hl
  unfold collect
  refine wpAny_bind (wpAny_runValue (codeAny_builtin entry_proto_collect' ?_))
  show wpAny _ _ (do again (.builtin "list.__iadd__" ⟨[← newList [], .ref l], []⟩)) _ _ s
  refine wpAny_bind (wpAny_newList (wpAny_pure ⟨Code.quiet_builtin _ (by decide +kernel), codeAny_builtin entry_list_iadd' ?_⟩))
  show wpAny _ _ (Builtin.List.listExtendWith (.ref s.heap.objs.size) (.ref l) (.ref s.heap.objs.size)) _ _ { s with heap := s.heap.push (seqObj "list" #[] 0) }
  unfold Builtin.List.listExtendWith
  have ho' : (s.heap.push (seqObj "list" #[] 0)).get? l = some o := Heap.get?_push_of_some _ ho
  refine wpAny_bind (wpAny_typeOf (T := "tuple") ⟨o, ho', hc⟩ ?_)
  have ht : (Value.type "tuple" == Value.type "tuple") = true := by rfl
  rw [if_pos (by rw [ht]; simp)]
  refine wpAny_bind (listItems_at ho' hd ?_)
  refine wpAny_bind (listItems_at (xs := #[]) (n := 0) (Heap.get?_push_size _ rfl) rfl ?_)
  rw [if_neg (by simp)]
  refine wpAny_bind (listUpdate_at (xs := #[]) (n := 0) (Heap.get?_push_size _ rfl) rfl ?_ (Nat.zero_le _) (by show (#[] ++ vs.toArray).size ≤ sizeLine + 1; simp only [Array.size_append, List.size_toArray, List.length_nil]; omega))
  refine wpAny_pure ?_
  show wpAny (model prog w) A (do
      let o ← load s.heap.objs.size
      match o.data with
      | .seq xs _ => pure xs.toList
      | _ => unsupported "internal:collect") Q E { s with heap := (s.heap.push (seqObj "list" #[] 0)).update s.heap.objs.size (Obj.mapSeq (· ++ vs.toArray)) }
  refine wpAny_bind (wpAny_load (get?_update_seq (Heap.get?_push_size _ rfl) _) ?_)
  show wpAny _ _ (pure ((#[] : Array Value) ++ vs.toArray).toList) Q E _
  rw [show ((#[] : Array Value) ++ vs.toArray).toList = vs by simp]
  exact wpAny_pure h
open SrtO in
theorem sorted_t {vs : List Value} {ltv : Value → Value → Bool} {Q : Value → Shared → Prop} (O : Swo ltv) (hl : s.heap.IsTuple l vs.toArray) (hz : vs.length ≤ sizeLine)
    (hS : 2 ≤ vs.length → ∀ (h₁ : Heap) (a : Addr), h₁.get? a = some (seqObj "list" vs.toArray 0) → (∀ b o, s.heap.get? b = some o → b ≠ a ∧ h₁.get? b = some o) → SortableO prog w A.in1.in1 { s with heap := h₁ } a vs ltv)
    (h : ∀ out : List Value, Srtd ltv out → Stb ltv out vs → Q (.ref (s.heap.objs.size + 1)) { s with heap := sortedAll s.heap vs out.toArray }) :
    wpAny (model prog w) A (call (.builtin "sorted") [.ref l]) Q E s := by
  refine Calls.call_function_entry kind_sorted plain_sorted entry_sorted (args_sorted1 _) ?_
  unfold Builtin.«sorted»
  refine wpAny_bind (m := checkCount "sorted" 1 1 _) (wpAny_pure ?_)
  refine wpAny_bind (collect_t hl ?_ hz)
  refine wpAny_bind (wpAny_newList ?_ hz)
  have hsz : ((s.heap.push (seqObj "list" #[] 0)).update s.heap.objs.size (Obj.mapSeq (· ++ vs.toArray))).objs.size = s.heap.objs.size + 1 := by
    rw [Heap.size_update, size_push']
  have hoL : (((s.heap.push (seqObj "list" #[] 0)).update s.heap.objs.size (Obj.mapSeq (· ++ vs.toArray))).push (seqObj "list" vs.toArray 0)).get? (s.heap.objs.size + 1) = some (seqObj "list" vs.toArray 0) := by
    rw [← hsz]; exact Heap.get?_push_size _ rfl
  have keep : ∀ b o, s.heap.get? b = some o → b ≠ s.heap.objs.size + 1 ∧ (((s.heap.push (seqObj "list" #[] 0)).update s.heap.objs.size (Obj.mapSeq (· ++ vs.toArray))).push (seqObj "list" vs.toArray 0)).get? b = some o := fun b o q => by
    have hlt : b < s.heap.objs.size := Heap.lt_size q
    refine ⟨Nat.ne_of_lt (Nat.lt_succ_of_lt hlt), Heap.get?_push_of_some _ ?_⟩
    rw [Heap.get?_update_ne _ _ _ _ (Nat.ne_of_lt hlt)]
    exact Heap.get?_push_of_some _ q
  show wpAny _ _ _ _ _ { s with heap := ((s.heap.push (seqObj "list" #[] 0)).update s.heap.objs.size (Obj.mapSeq (· ++ vs.toArray))).push (seqObj "list" vs.toArray 0) }
  rw [hsz]
  refine wpAny_bind (wpAny_holding (wpAny_call_entry slot_list_sort ⟨_, hoL, rfl⟩ entry_list_sort (list_sort_ord O hoL hz (fun h2 => hS h2 _ _ hoL keep) fun out hs hb => ⟨_, rfl, ?_⟩) (args_list_sort _)))
  exact wpAny_pure ⟨_, rfl, h out hs hb⟩
end
end BiT
namespace L2
open PySem PySem.Spec PyProof.Rows
def rSortedTI (K : PySem.W.Frag) : List V → Hp → VK → Prop := fun vs H Q => ∃ (a : Addr) (ns : List Int), vs = [V.ref a] ∧ SqT K H a (ns.map V.int) ∧
  ∀ (ns' : List Int) (p : Addr), ns'.Perm ns → ns'.Pairwise (· ≤ ·) → H p = none → Q (.ref p) (upd H p (.lst (ns'.map V.int)))
def rMaxTI (K : PySem.W.Frag) : List V → Hp → VK → Prop := fun vs H Q => ∃ (a : Addr) (ns : List Int), vs = [V.ref a] ∧ SqT K H a (ns.map V.int) ∧ 0 < ns.length ∧ ∀ m, m ∈ ns → (∀ y, y ∈ ns → y ≤ m) → Q (.int m) H
def rMinTI (K : PySem.W.Frag) : List V → Hp → VK → Prop := fun vs H Q => ∃ (a : Addr) (ns : List Int), vs = [V.ref a] ∧ SqT K H a (ns.map V.int) ∧ 0 < ns.length ∧ ∀ m, m ∈ ns → (∀ y, y ∈ ns → m ≤ y) → Q (.int m) H
section
variable {X : Cx}
theorem cr_sortedTI : CallR X (.builtin "sorted") (rSortedTI X.K) := by
  intro pins s σ H vs us Q I r h
  obtain ⟨a, ns, rfl, hs, q⟩ := h
  obtain ⟨its, rv, hl, hz⟩ := I.tuple hs
  rw [Vals.ref1 r]
  have hi := rv.ints
  refine BiT.sorted_t SrtO.swo_int hl (by rw [← rv.length]; exact hz) (fun h2 h₁ a' _ _ => SrtO.ints_sortable hi h2) fun out h1 h2 => ?_
  obtain ⟨k1, k2, k3⟩ := SrtO.ints_out hi h1 h2
  obtain ⟨ep, he'⟩ := PyProof.Rows.sortedAll_at s.heap its out.toArray
  have hlen : ((out.map SrtO.iv).map V.int).length ≤ sizeLine := by
    rw [List.length_map, k2.length_eq]
    rw [List.length_map] at hz
    exact hz
  exact ⟨.ref _, upd H (s.heap.objs.size + 1) (.lst ((out.map SrtO.iv).map V.int)), I.laid (t' := s.toks) (fun _ _ => PyProof.Rows.sortedAll_old) (Nat.le_succ _) ⟨hlen, out, ep, vals_of_ints k1, he'⟩, rfl, q _ _ k2 k3 (I.hok.fresh (Nat.le_succ _))⟩
theorem cr_maxTI (hc : X.calm = true) : CallR X (.builtin "max") (rMaxTI X.K) := by
  intro pins s σ H vs us Q I r h
  obtain ⟨a, ns, rfl, hs, hne, q⟩ := h
  obtain ⟨its, rv, hl, _⟩ := I.tuple hs
  rw [Vals.ref1 r]
  have hi := rv.ints
  obtain ⟨xs, e⟩ := hi.allInts.items
  have hn : numsOf (intItems xs).toList = ns := by rw [← e]; exact hi.numsOf
  rw [nums_intItems] at hn
  subst hn
  rw [e] at hl
  have hsz : 0 < xs.size := by simpa using hne
  refine BiT.max_t (I.ok.hd hc) hl hsz fun v h' tk hv hk => ?_
  obtain ⟨t, rfl⟩ := intItems_at hv
  obtain ⟨h1, h2⟩ := argBest_gt (numAt xs) (xs.size - 1)
  refine ⟨.int _, H, I.kept hk, ⟨_, rfl⟩, q _ ?_ fun a ha => ?_⟩
  · rw [numAt_eq]; exact PySem.getD_mem (by rw [List.length_map, Array.length_toList]; omega)
  · obtain ⟨j, hj, rfl⟩ := mem_getD ha
    rw [List.length_map, Array.length_toList] at hj
    rw [← numAt_eq]; exact h2 j (by omega)
theorem cr_minTI (hc : X.calm = true) : CallR X (.builtin "min") (rMinTI X.K) := by
  intro pins s σ H vs us Q I r h
  obtain ⟨a, ns, rfl, hs, hne, q⟩ := h
  obtain ⟨its, rv, hl, _⟩ := I.tuple hs
  rw [Vals.ref1 r]
  have hi := rv.ints
  obtain ⟨xs, e⟩ := hi.allInts.items
  have hn : numsOf (intItems xs).toList = ns := by rw [← e]; exact hi.numsOf
  rw [nums_intItems] at hn
  subst hn
  rw [e] at hl
  have hsz : 0 < xs.size := by simpa using hne
  refine BiT.min_t (I.ok.hd hc) hl hsz fun v h' tk hv hk => ?_
  obtain ⟨t, rfl⟩ := intItems_at hv
  obtain ⟨h1, h2⟩ := argBest_lt (numAt xs) (xs.size - 1)
  refine ⟨.int _, H, I.kept hk, ⟨_, rfl⟩, q _ ?_ fun a ha => ?_⟩
  · rw [numAt_eq]; exact PySem.getD_mem (by rw [List.length_map, Array.length_toList]; omega)
  · obtain ⟨j, hj, rfl⟩ := mem_getD ha
    rw [List.length_map, Array.length_toList] at hj
    rw [← numAt_eq]; exact h2 j (by omega)
end
end L2

end
section
set_option Elab.async false
set_option linter.all false
set_option autoImplicit false
set_option maxRecDepth 100000
set_option maxHeartbeats 1000000
/-! Bi6: the built-ins, one by one. -/
namespace Bi
open PySem L2
section
variable {K : PySem.W.Frag} {mg : Str → Option Value} {H : Hp} {ρ : Nat → Addr} {s : Sg}
def asI : PV → Option Int
  | .int i => some i
  | _ => none
def asB : PV → Option Bool
  | .bl i => some i
  | _ => none
def asS : PV → Option Str
  | .str i => some i
  | _ => none
def asPr : PV → Option (Int × Int)
  | .tup [.int a, .int b] => some (a, b)
  | _ => none
theorem mapM_rvs {α : Type} {f : PV → Option α} {g : α → V} (hf : ∀ v a u, f v = some a → RV K mg H ρ v u → u = g a) : ∀ {xs : List PV} {as : List α} {us : List V}, xs.mapM f = some as → RVs K mg H ρ xs us → us = as.map g
  | [], as, us, e, r => by
    cases r
    have e' : some ([] : List α) = some as := by simpa using e
    rw [← Option.some.inj e']
    rfl
  | x :: xs, as, us, e, r => by
    obtain ⟨y, ys, e1, e2, rfl⟩ := mapM_cons e
    cases r with
    | cons h t => rw [mapM_rvs hf e2 t, hf x y _ e1 h]; rfl
theorem asI_rv (v : PV) (a : Int) (u : V) (e : asI v = some a) (r : RV K mg H ρ v u) : u = V.int a := by
  cases v with
  | int i => cases e; cases r; rfl
  | _ => cases e
theorem asB_rv (v : PV) (a : Bool) (u : V) (e : asB v = some a) (r : RV K mg H ρ v u) : u = V.bl a := by
  cases v with
  | bl i => cases e; cases r; rfl
  | _ => cases e
theorem asS_rv (v : PV) (a : Str) (u : V) (e : asS v = some a) (r : RV K mg H ρ v u) : u = V.str a := by
  cases v with
  | str i => cases e; cases r; rfl
  | _ => cases e
/-- the items of a list, read -/
def lstOf (v : PV) (s : Sg) : Option (List PV) := match v with
  | .lsq xs => some xs
  | .ref n => (match s.g[n]? with | some (.lst xs) => some xs | _ => none)
  | _ => none
theorem lstOf_rv (rel : Rel K mg ρ s H) {v : PV} {u : V} {xs : List PV} (b : v.bd s.g.length = true) (e : lstOf v s = some xs) (r : RV K mg H ρ v u) : ∃ a us, u = .ref a ∧ SqL K H a us ∧ RVs K mg H ρ xs us ∧ xs.all (PV.bd s.g.length) = true := by
  cases v with
  | lsq ys =>
    cases e
    obtain ⟨a, us, rfl, q, rs⟩ := RV.lsq_iff.mp r
    rw [bd_lsq] at b
    exact ⟨a, us, rfl, q.sq, rs, b⟩
  | ref n =>
    cases r
    unfold lstOf at e
    simp only at e
    cases e1 : s.g[n]? with
    | none => rw [e1] at e; cases e
    | some o =>
      rw [e1] at e
      cases o with
      | lst ys =>
        cases e
        obtain ⟨us, q, rs⟩ := rel.cell n _ e1
        exact ⟨ρ n, us, rfl, SqL.of q, rs, lst_bd rel e1⟩
      | _ => cases e
  | _ => cases e
/-- the items of a list or a tuple -/
def seqOf (v : PV) (s : Sg) : Option (List PV) := match v with
  | .tup xs => some xs
  | v => lstOf v s
theorem seqOf_rv (rel : Rel K mg ρ s H) {v : PV} {u : V} {xs : List PV} (b : v.bd s.g.length = true) (e : seqOf v s = some xs) (r : RV K mg H ρ v u) : ∃ a us, u = .ref a ∧ (SqL K H a us ∨ SqT K H a us) ∧ RVs K mg H ρ xs us ∧ xs.all (PV.bd s.g.length) = true := by
  by_cases h : ∃ ys, v = .tup ys
  · obtain ⟨ys, rfl⟩ := h
    cases e
    obtain ⟨a, us, rfl, q, rs⟩ := RV.tup_iff.mp r
    rw [bd_tup] at b
    exact ⟨a, us, rfl, .inr q, rs, b⟩
  · have e' : lstOf v s = some xs := by
      cases v with
      | tup ys => exact absurd ⟨ys, rfl⟩ h
      | _ => exact e
    obtain ⟨a, us, h1, h2, h3⟩ := lstOf_rv rel b e' r
    exact ⟨a, us, h1, .inl h2, h3⟩
end

/-! ### len -/
def vLen (T : Tab) (φ : Phi) : List PV → Sg → R PV
  | [.str z], s => if z.length ≤ sizeLine then .ok (.int z.length) s else .bad
  | [.ref n], s => (match s.g[n]? with
    | some (.lst xs) => .ok (.int xs.length) s
    | some (.dic kvs _) => .ok (.int kvs.length) s
    | some (.ins C _) => if T.meth C (Str.ofString "__len__") then (noErr (φ (qn C (Str.ofString "__len__")) [.ref n] s)).bind fun v s => (match v with | .int i => if okLn i then .ok (.int i) s else .bad | _ => .bad) else .bad
    | none => .bad)
  | [.tup xs], s => .ok (.int xs.length) s
  | [.lsq xs], s => .ok (.int xs.length) s
  | _, _ => .bad
section
variable {X : Cx} {T : Tab} {φ : Phi} {k : Nat}
def rLenA (X : Cx) (φ : Phi) (k : Nat) : List V → Hp → VK → Prop := fun xs H Q => (∃ x n, xs = [x] ∧ LenV X.K x H n ∧ Q (.int n) H) ∨ (∃ a kvs, xs = [V.ref a] ∧ Rd H a (.dK kvs) ∧ Q (.int kvs.length) H) ∨
  ∃ (q : Str) (n : Nat) (C f : Addr) (fd : FuncData) (ps : List Str) (a dx : Addr) (fs : List (Str × V)), Cls X.K C ∧ SpcOk X.K C (Str.ofString "__len__") f ∧ FnG X.prog X.w X.K X.mg X.base k f fd ps (spPhi X.K X.mg φ q n) ∧ Binds X.K fd ps [] ∧
    xs = [V.ref a] ∧ H a = some (.ins C dx fs) ∧ spPhi X.K X.mg φ q n [.ref a] H (fun v H' => ∃ i : Int, v = .int i ∧ 0 ≤ i ∧ i < 2 ^ 63 ∧ Q (.int i) H') E0
theorem call_lenA (hr : RG (k + 1) X.A) : CallR X (.builtin "len") (rLenA X φ k) := by
  intro pins s σ H xs us Q I r h
  rcases h with h | ⟨a, kvs, rfl, e, q⟩ | ⟨q, n, C, f, fd, ps, a, dx, fs, c, S, G, B, rfl, ea, h⟩
  · exact call_len pins s σ H xs us Q I r h
  · obtain ⟨u, rfl, ru⟩ := vals1 r
    cases ru
    exact d_len I e fun t s' I' => ⟨.int kvs.length, H, I', ⟨t, rfl⟩, q⟩
  · exact call_lenOwn c S G hr B pins s σ H _ us Q I r ⟨a, dx, fs, rfl, ea, h⟩
theorem vals_nil {ds : List Value} {dvs : List V} (h : Vals dvs ds) (e : dvs = []) : ds = [] := by
  subst e
  cases h
  rfl
theorem vr_len (F : Facts X T φ k) (hd : ∀ C, T.meth C (Str.ofString "__len__") = true → T.dfl (qn C (Str.ofString "__len__")) 1 = some []) : VRL X.K X.mg (vLen T φ) (rLenA X φ k) where
  run := fun W ρ s H σ a x Q rel b r h => by
    unfold vLen at h
    split at h
    · rename_i z
      cases r with
      | cons r1 t =>
        cases t
        cases r1
        by_cases hz : z.length ≤ sizeLine
        · rw [if_pos hz] at h
          exact .inl ⟨_, _, rfl, ⟨hz, rfl⟩, post_ok h (Nx.refl rel) (by rw [PV.bd]) (.int _)⟩
        · rw [if_neg hz] at h
          exact h.elim
    · rename_i n
      cases r with
      | cons r1 t =>
        cases t
        cases r1
        cases e1 : s.g[n]? with
        | none => rw [e1] at h; exact h.elim
        | some o =>
          rw [e1] at h
          cases o with
          | lst xs =>
            obtain ⟨us, q, rs⟩ := rel.cell n _ e1
            refine .inl ⟨_, xs.length, rfl, .inl ⟨us, SqL.of q, rs.length⟩, post_ok h (Nx.refl rel) (by rw [PV.bd]) (.int _)⟩
          | dic kvs lk =>
            obtain ⟨ws, q, rs⟩ := dic_of rel e1
            refine .inr (.inl ⟨_, ws, rfl, q, ?_⟩)
            rw [← rs.length]
            exact post_ok h (Nx.refl rel) (by rw [PV.bd]) (.int _)
          | ins C fs =>
            obtain ⟨Ca, dx, ws, g1, g2, g3⟩ := rel.cell n _ e1
            simp only at h
            by_cases hm : T.meth C (Str.ofString "__len__") = true
            · rw [if_pos hm] at h
              obtain ⟨c, f, mt, ⟨n', fd, ps, G, hn, hb⟩⟩ := F.meth C _ Ca hm g1
              obtain ⟨ds, dvs, B, hv, hrv, hdz⟩ := hb 1 _ (hd C hm)
              have hdv : dvs = [] := by
                have z := hrv H ρ
                cases z
                rfl
              have hds := vals_nil hv hdv
              subst hdv hds
              refine .inr (.inr ⟨_, n', Ca, f, fd, ps, ρ n, dx, ws, c, ⟨mt.at_, mt.fn⟩, G, B, rfl, g2, ?_⟩)
              have hb3 : [PV.ref n].all (PV.bd s.g.length) = true := b
              have nb : φ (qn C (Str.ofString "__len__")) [.ref n] s ≠ .bad := fun z => by rw [z] at h; exact h
              refine ⟨ρ, s, [.ref n], rel, hb3, .cons (.ref n) .nil, hn _ _ nb, ?_⟩
              cases e5 : φ (qn C (Str.ofString "__len__")) [.ref n] s with
              | ok v s' =>
                rw [e5] at h
                simp only [noErr_ok, bind_ok] at h
                cases v with
                | int i =>
                  simp only at h
                  by_cases hi : okLn i = true
                  · rw [if_pos hi] at h
                    obtain ⟨i1, i2⟩ := Bool.and_eq_true_iff.mp (okLn_of hi)
                    intro ρ' H' u n1 r1
                    obtain ⟨_, r1⟩ := r1
                    cases r1
                    exact ⟨i, rfl, of_decide_eq_true i1, of_decide_eq_true i2, h ρ' H' (.int i) n1 ⟨by rw [PV.bd], .int i⟩⟩
                  · rw [if_neg hi] at h
                    exact h.elim
                | _ => exact h.elim
              | err D v s' => rw [e5] at h; exact h.elim
              | bad => exact absurd e5 nb
            · rw [if_neg hm] at h
              exact h.elim
    · cases r with
      | cons r1 t =>
        cases t
        obtain ⟨a, us, rfl, q, rs⟩ := RV.tup_iff.mp r1
        exact .inl ⟨_, _, rfl, .inr ⟨us, q, rs.length⟩, post_ok h (Nx.refl rel) (by rw [PV.bd]) (.int _)⟩
    · cases r with
      | cons r1 t =>
        cases t
        obtain ⟨a, us, rfl, q, rs⟩ := RV.lsq_iff.mp r1
        exact .inl ⟨_, _, rfl, .inl ⟨us, q.sq, rs.length⟩, post_ok h (Nx.refl rel) (by rw [PV.bd]) (.int _)⟩
    · exact h.elim
  gd := fun a s => by
    unfold vLen
    split
    · split
      · exact Gd.refl s
      · trivial
    · split
      · exact Gd.refl s
      · exact Gd.refl s
      · split
        · refine (noErr_gd (F.gd _ _ _)).bind fun v s' _ => ?_
          split
          · split
            · exact Gd.refl _
            · trivial
          · trivial
        · trivial
      · trivial
    · exact Gd.refl s
    · exact Gd.refl s
    · trivial
end

/-! ### numbers -/
section
variable {K : PySem.W.Frag} {mg : Str → Option Value}
def vAbs : List PV → Sg → R PV
  | [.int i], s => .ok (.int (if i < 0 then -i else i)) s
  | _, _ => .bad
theorem vr_abs : VRL K mg vAbs (fun xs H Q => ∃ i, xs = [.int i] ∧ Q (.int (if i < 0 then -i else i)) H) where
  run := fun W ρ s H σ a x Q rel b r h => by
    unfold vAbs at h
    split at h
    · cases r with
      | cons r1 t => cases t; cases r1; exact ⟨_, rfl, post_ok h (Nx.refl rel) (by rw [PV.bd]) (.int _)⟩
    · exact h.elim
  gd := fun a s => by
    unfold vAbs
    split
    · exact Gd.refl s
    · trivial
def maxL : List Int → Option Int
  | [] => none
  | x :: xs => some (xs.foldl (fun a b => if b > a then b else a) x)
def minL : List Int → Option Int
  | [] => none
  | x :: xs => some (xs.foldl (fun a b => if b < a then b else a) x)
theorem foldl_max : ∀ (xs : List Int) (x : Int), (xs.foldl (fun a b => if b > a then b else a) x = x ∨ xs.foldl (fun a b => if b > a then b else a) x ∈ xs) ∧ x ≤ xs.foldl (fun a b => if b > a then b else a) x ∧ ∀ y ∈ xs, y ≤ xs.foldl (fun a b => if b > a then b else a) x
  | [], x => ⟨.inl rfl, Int.le_refl _, fun y hy => by cases hy⟩
  | z :: xs, x => by
    obtain ⟨h1, h2, h3⟩ := foldl_max xs (if z > x then z else x)
    rw [List.foldl_cons]
    have h4 : x ≤ (if z > x then z else x) ∧ z ≤ (if z > x then z else x) := by split <;> omega
    refine ⟨?_, by omega, fun y hy => ?_⟩
    · rcases h1 with h1 | h1
      · by_cases hz : z > x
        · rw [if_pos hz] at h1 ⊢
          exact .inr (by rw [h1]; exact List.mem_cons_self ..)
        · rw [if_neg hz] at h1 ⊢
          exact .inl h1
      · exact .inr (List.mem_cons_of_mem _ h1)
    · rcases List.mem_cons.mp hy with e | hy
      · subst e; omega
      · exact h3 y hy
theorem foldl_min : ∀ (xs : List Int) (x : Int), (xs.foldl (fun a b => if b < a then b else a) x = x ∨ xs.foldl (fun a b => if b < a then b else a) x ∈ xs) ∧ xs.foldl (fun a b => if b < a then b else a) x ≤ x ∧ ∀ y ∈ xs, xs.foldl (fun a b => if b < a then b else a) x ≤ y
  | [], x => ⟨.inl rfl, Int.le_refl _, fun y hy => by cases hy⟩
  | z :: xs, x => by
    obtain ⟨h1, h2, h3⟩ := foldl_min xs (if z < x then z else x)
    rw [List.foldl_cons]
    have h4 : (if z < x then z else x) ≤ x ∧ (if z < x then z else x) ≤ z := by split <;> omega
    refine ⟨?_, by omega, fun y hy => ?_⟩
    · rcases h1 with h1 | h1
      · by_cases hz : z < x
        · rw [if_pos hz] at h1 ⊢
          exact .inr (by rw [h1]; exact List.mem_cons_self ..)
        · rw [if_neg hz] at h1 ⊢
          exact .inl h1
      · exact .inr (List.mem_cons_of_mem _ h1)
    · rcases List.mem_cons.mp hy with e | hy
      · subst e; omega
      · exact h3 y hy
theorem maxL_spec {xs : List Int} {m : Int} (h : maxL xs = some m) : m ∈ xs ∧ ∀ y ∈ xs, y ≤ m := by
  cases xs with
  | nil => cases h
  | cons x xs =>
    cases h
    obtain ⟨h1, h2, h3⟩ := foldl_max xs x
    refine ⟨?_, fun y hy => ?_⟩
    · rcases h1 with h1 | h1
      · rw [h1]; exact List.mem_cons_self ..
      · exact List.mem_cons_of_mem _ h1
    · rcases List.mem_cons.mp hy with e | hy
      · rw [e]; exact h2
      · exact h3 y hy
theorem minL_spec {xs : List Int} {m : Int} (h : minL xs = some m) : m ∈ xs ∧ ∀ y ∈ xs, m ≤ y := by
  cases xs with
  | nil => cases h
  | cons x xs =>
    cases h
    obtain ⟨h1, h2, h3⟩ := foldl_min xs x
    refine ⟨?_, fun y hy => ?_⟩
    · rcases h1 with h1 | h1
      · rw [h1]; exact List.mem_cons_self ..
      · exact List.mem_cons_of_mem _ h1
    · rcases List.mem_cons.mp hy with e | hy
      · rw [e]; exact h2
      · exact h3 y hy
def vMax : List PV → Sg → R PV
  | [.int i, .int j], s => .ok (.int (if j > i then j else i)) s
  | [v], s => (match (seqOf v s).bind fun xs => (xs.mapM asI).bind maxL with | some m => .ok (.int m) s | none => .bad)
  | _, _ => .bad
def vMin : List PV → Sg → R PV
  | [.int i, .int j], s => .ok (.int (if j < i then j else i)) s
  | [v], s => (match (seqOf v s).bind fun xs => (xs.mapM asI).bind minL with | some m => .ok (.int m) s | none => .bad)
  | _, _ => .bad
theorem vr_max : VRL K mg vMax (fun xs H Q => (∃ i j, xs = [.int i, .int j] ∧ Q (.int (if j > i then j else i)) H) ∨ (rMax K xs H Q ∨ rMaxTI K xs H Q)) where
  run := fun W ρ s H σ a x Q rel b r h => by
    unfold vMax at h
    split at h
    · cases r with
      | cons r1 t => cases t with
        | cons r2 t => cases t; cases r1; cases r2; exact .inl ⟨_, _, rfl, post_ok h (Nx.refl rel) (by rw [PV.bd]) (.int _)⟩
    · rename_i v
      cases r with
      | cons r1 t =>
        cases t
        rename_i u
        rw [List.all_cons, List.all_nil, Bool.and_true] at b
        cases e1 : seqOf v s with
        | none => rw [e1] at h; exact h.elim
        | some xs =>
          rw [e1] at h
          cases e2 : xs.mapM asI with
          | none => simp only [Option.bind, e2] at h; exact h.elim
          | some ns =>
            cases e3 : maxL ns with
            | none => simp only [Option.bind, e2, e3] at h; exact h.elim
            | some m =>
              simp only [Option.bind, e2, e3] at h
              obtain ⟨p, us, rfl, q, rs, _⟩ := seqOf_rv rel b e1 r1
              have hu := mapM_rvs (g := V.int) asI_rv e2 rs
              subst hu
              obtain ⟨h1, h2⟩ := maxL_spec e3
              rcases q with q | q
              · refine .inr (.inl ⟨p, ns, rfl, q, ?_, fun m' hm hm' => ?_⟩)
                · exact List.length_pos_of_mem h1
                · have : m' = m := Int.le_antisymm (h2 m' hm) (hm' m h1)
                  rw [this]
                  exact post_ok h (Nx.refl rel) (by rw [PV.bd]) (.int _)
              · refine .inr (.inr ⟨p, ns, rfl, q, ?_, fun m' hm hm' => ?_⟩)
                · exact List.length_pos_of_mem h1
                · have : m' = m := Int.le_antisymm (h2 m' hm) (hm' m h1)
                  rw [this]
                  exact post_ok h (Nx.refl rel) (by rw [PV.bd]) (.int _)
    · exact h.elim
  gd := fun a s => by
    unfold vMax
    split
    · exact Gd.refl s
    · split
      · exact Gd.refl s
      · trivial
    · trivial
theorem vr_min : VRL K mg vMin (fun xs H Q => (∃ i j, xs = [.int i, .int j] ∧ Q (.int (if j < i then j else i)) H) ∨ (rMin K xs H Q ∨ rMinTI K xs H Q)) where
  run := fun W ρ s H σ a x Q rel b r h => by
    unfold vMin at h
    split at h
    · cases r with
      | cons r1 t => cases t with
        | cons r2 t => cases t; cases r1; cases r2; exact .inl ⟨_, _, rfl, post_ok h (Nx.refl rel) (by rw [PV.bd]) (.int _)⟩
    · rename_i v
      cases r with
      | cons r1 t =>
        cases t
        rename_i u
        rw [List.all_cons, List.all_nil, Bool.and_true] at b
        cases e1 : seqOf v s with
        | none => rw [e1] at h; exact h.elim
        | some xs =>
          rw [e1] at h
          cases e2 : xs.mapM asI with
          | none => simp only [Option.bind, e2] at h; exact h.elim
          | some ns =>
            cases e3 : minL ns with
            | none => simp only [Option.bind, e2, e3] at h; exact h.elim
            | some m =>
              simp only [Option.bind, e2, e3] at h
              obtain ⟨p, us, rfl, q, rs, _⟩ := seqOf_rv rel b e1 r1
              have hu := mapM_rvs (g := V.int) asI_rv e2 rs
              subst hu
              obtain ⟨h1, h2⟩ := minL_spec e3
              rcases q with q | q
              · refine .inr (.inl ⟨p, ns, rfl, q, ?_, fun m' hm hm' => ?_⟩)
                · exact List.length_pos_of_mem h1
                · have : m' = m := Int.le_antisymm (hm' m h1) (h2 m' hm)
                  rw [this]
                  exact post_ok h (Nx.refl rel) (by rw [PV.bd]) (.int _)
              · refine .inr (.inr ⟨p, ns, rfl, q, ?_, fun m' hm hm' => ?_⟩)
                · exact List.length_pos_of_mem h1
                · have : m' = m := Int.le_antisymm (hm' m h1) (h2 m' hm)
                  rw [this]
                  exact post_ok h (Nx.refl rel) (by rw [PV.bd]) (.int _)
    · exact h.elim
  gd := fun a s => by
    unfold vMin
    split
    · exact Gd.refl s
    · split
      · exact Gd.refl s
      · trivial
    · trivial
theorem callr_max {X : Cx} (hc : X.calm = true) : CallR X (.builtin "max") (fun xs H Q => (∃ i j, xs = [.int i, .int j] ∧ Q (.int (if j > i then j else i)) H) ∨ (rMax X.K xs H Q ∨ rMaxTI X.K xs H Q)) := CallR.or (call_max2 hc) (CallR.or (cr_max hc) (cr_maxTI hc))
theorem callr_min {X : Cx} (hc : X.calm = true) : CallR X (.builtin "min") (fun xs H Q => (∃ i j, xs = [.int i, .int j] ∧ Q (.int (if j < i then j else i)) H) ∨ (rMin X.K xs H Q ∨ rMinTI X.K xs H Q)) := CallR.or (call_min2 hc) (CallR.or (cr_min hc) (cr_minTI hc))
/-- f of a list read as a list of α -/
def vL1 {α : Type} (f : PV → Option α) (g : List α → PV) : List PV → Sg → R PV
  | [v], s => (match (lstOf v s).bind fun xs => xs.mapM f with | some m => .ok (g m) s | none => .bad)
  | _, _ => .bad
theorem vL1_gd {α : Type} (f : PV → Option α) (g : List α → PV) (a : List PV) (s : Sg) : GdR s (vL1 f g a s) := by
  unfold vL1
  split
  · split
    · exact Gd.refl s
    · trivial
  · trivial
theorem vL1_of {α : Type} {f : PV → Option α} {g : List α → PV} {W : WX} {ρ : Nat → Addr} {s : Sg} {H : Hp} {σ : L2.St} {a : List PV} {x : List V} {Q : VK} {w : α → V} (hw : ∀ v a u, f v = some a → RV K mg H ρ v u → u = w a) (rel : Rel K mg ρ s H) (b : a.all (PV.bd s.g.length) = true) (r : RVs K mg H ρ a x)
    (h : PostE K mg W ρ s H σ Q (vL1 f g a s)) : ∃ p ns, x = [.ref p] ∧ SqL K H p (ns.map w) ∧ PostE K mg W ρ s H σ Q (.ok (g ns) s) := by
  unfold vL1 at h
  split at h
  · rename_i v
    cases r with
    | cons r1 t =>
      cases t
      rename_i u
      rw [List.all_cons, List.all_nil, Bool.and_true] at b
      cases e1 : lstOf v s with
      | none => rw [e1] at h; exact h.elim
      | some xs =>
        rw [e1] at h
        cases e2 : xs.mapM f with
        | none => simp only [Option.bind, e2] at h; exact h.elim
        | some ns =>
          simp only [Option.bind, e2] at h
          obtain ⟨p, us, rfl, q, rs, _⟩ := lstOf_rv rel b e1 r1
          have hu := mapM_rvs (g := w) hw e2 rs
          subst hu
          exact ⟨p, ns, rfl, q, h⟩
  · exact h.elim
def vAll := vL1 asB fun bs => .bl (bs.all id)
def vAny := vL1 asB fun bs => .bl (bs.any id)
def vSum := vL1 asI fun bs => .int bs.sum
theorem vr_all : VRL K mg vAll (rAll K) where
  run := fun W ρ s H σ a x Q rel b r h => by
    obtain ⟨p, ns, e, q, h⟩ := vL1_of (w := V.bl) asB_rv rel b r h
    exact ⟨p, ns, e, q, post_ok h (Nx.refl rel) (by rw [PV.bd]) (.bl _)⟩
  gd := vL1_gd _ _
theorem vr_any : VRL K mg vAny (rAny K) where
  run := fun W ρ s H σ a x Q rel b r h => by
    obtain ⟨p, ns, e, q, h⟩ := vL1_of (w := V.bl) asB_rv rel b r h
    exact ⟨p, ns, e, q, post_ok h (Nx.refl rel) (by rw [PV.bd]) (.bl _)⟩
  gd := vL1_gd _ _
theorem vr_sum : VRL K mg vSum (rSum K) where
  run := fun W ρ s H σ a x Q rel b r h => by
    obtain ⟨p, ns, e, q, h⟩ := vL1_of (w := V.int) asI_rv rel b r h
    exact ⟨p, ns, e, q, post_ok h (Nx.refl rel) (by rw [PV.bd]) (.int _)⟩
  gd := vL1_gd _ _
/-- int(x) -/
def vInt : List PV → Sg → R PV
  | [.int i], s => .ok (.int i) s
  | [.bl k], s => .ok (.int (if k then 1 else 0)) s
  | [.str z], s => (match PySem.intText? z with | some n => if z.length ≤ 640 then .ok (.int n) s else .bad | none => .bad)
  | _, _ => .bad
abbrev rInt3 : List V → Hp → VK → Prop := fun xs H Q => ((∃ i, xs = [.int i] ∧ Q (.int i) H) ∨ ∃ k, xs = [.bl k] ∧ Q (.int (if k then 1 else 0)) H) ∨ (∃ a n, xs = [.str a] ∧ PySem.intText? a = some n ∧ a.length ≤ 640 ∧ Q (.int n) H)
theorem vr_int : VRL K mg vInt rInt3 where
  run := fun W ρ s H σ a x Q rel b r h => by
    unfold vInt at h
    split at h
    · cases r with
      | cons r1 t => cases t; cases r1; exact .inl (.inl ⟨_, rfl, post_ok h (Nx.refl rel) (by rw [PV.bd]) (.int _)⟩)
    · cases r with
      | cons r1 t => cases t; cases r1; exact .inl (.inr ⟨_, rfl, post_ok h (Nx.refl rel) (by rw [PV.bd]) (.int _)⟩)
    · rename_i z
      cases r with
      | cons r1 t =>
        cases t
        cases r1
        split at h
        · rename_i n e
          by_cases hz : z.length ≤ 640
          · rw [if_pos hz] at h
            exact .inr ⟨_, n, rfl, e, hz, post_ok h (Nx.refl rel) (by rw [PV.bd]) (.int _)⟩
          · rw [if_neg hz] at h
            exact h.elim
        · exact h.elim
    · exact h.elim
  gd := fun a s => by
    unfold vInt
    split
    · exact Gd.refl s
    · exact Gd.refl s
    · split
      · split
        · exact Gd.refl s
        · trivial
      · trivial
    · trivial
theorem callr_int {X : Cx} : CallR X (.type "int") rInt3 := CallR.or call_int1 call_int_str
/-- str(n) -/
def vStr : List PV → Sg → R PV
  | [.int i], s => if ok255 i then .ok (.str (Str.ofString (toString i))) s else .bad
  | _, _ => .bad
theorem vr_str : VRL K mg vStr (fun xs H Q => ∃ i, xs = [.int i] ∧ i.natAbs.log2 < 1920 ∧ Q (.str (toString i)) H) where
  run := fun W ρ s H σ a x Q rel b r h => by
    unfold vStr at h
    split at h
    · rename_i i
      cases r with
      | cons r1 t =>
        cases t
        cases r1
        by_cases hz : ok255 i = true
        · rw [if_pos hz] at h
          exact ⟨i, rfl, log_1920 (ok255_of hz), post_ok h (Nx.refl rel) (by rw [PV.bd]) (.str _)⟩
        · rw [if_neg hz] at h
          exact h.elim
    · exact h.elim
  gd := fun a s => by
    unfold vStr
    split
    · split
      · exact Gd.refl s
      · trivial
    · trivial
/-! ### isinstance of built-in types -/
def tyName (v : PV) (s : Sg) : Option String := match v with
  | .non => some "NoneType"
  | .bl _ => some "bool"
  | .int _ => some "int"
  | .str _ => some "str"
  | .tup _ => some "tuple"
  | .ref n => (match s.g[n]? with | some (.lst _) => some "list" | some (.dic _ _) => some "dict" | _ => none)
  | _ => none
def vIsi : List PV → Sg → R PV
  | [v, .ty n], s => (match tyName v s with
    | some t => if ["bool", "int", "str", "tuple", "list", "dict"].contains n then .ok (.bl (t == n || (t == "bool" && n == "int"))) s else .bad
    | none => .bad)
  | _, _ => .bad
theorem kitB_all : (["NoneType", "bool", "int", "str", "tuple", "list", "dict"].all fun t => ["bool", "int", "str", "tuple", "list", "dict"].all fun n => decide (kitB t n = some (t == n || (t == "bool" && n == "int")))) = true := by decide +kernel
theorem tyName_mem {v : PV} {s : Sg} {t : String} (h : tyName v s = some t) : t ∈ ["NoneType", "bool", "int", "str", "tuple", "list", "dict"] := by
  unfold tyName at h
  split at h
  · cases h; decide
  · cases h; decide
  · cases h; decide
  · cases h; decide
  · cases h; decide
  · split at h
    · cases h; decide
    · cases h; decide
    · cases h
  · cases h
theorem tyX_of {ρ : Nat → Addr} {s : Sg} {H : Hp} {v : PV} {u : V} {t : String} (rel : Rel K mg ρ s H) (e : tyName v s = some t) (r : RV K mg H ρ v u) : TyX K H u (.type t) := by
  cases v with
  | non => cases e; cases r; exact .base .non
  | bl _ => cases e; cases r; exact .base (.bl _)
  | int _ => cases e; cases r; exact .base (.int _)
  | str _ => cases e; cases r; exact .base (.str _)
  | tup xs =>
    cases e
    obtain ⟨a, us, rfl, q, _⟩ := RV.tup_iff.mp r
    rcases q with (q | ⟨o, q⟩) | ⟨o, its, n, q, c, _⟩
    · exact .base (.tup q)
    · exact .fTuple q
    · exact .kTuple q c
  | ref n =>
    cases r
    unfold tyName at e
    simp only at e
    cases e1 : s.g[n]? with
    | none => rw [e1] at e; cases e
    | some o =>
      rw [e1] at e
      cases o with
      | lst xs => cases e; obtain ⟨us, q, _⟩ := rel.cell n _ e1; exact .base (.lst q)
      | dic kvs lk =>
        cases e
        cases lk with
        | false => obtain ⟨us, q, _⟩ := rel.cell n _ e1; exact .base (.dK q)
        | true => obtain ⟨o, us, q, _⟩ := rel.cell n _ e1; exact .fDict q
      | ins C fs => cases e
  | _ => cases e
theorem vr_isi : VRL K mg vIsi (rIsi K) where
  run := fun W ρ s H σ a x Q rel b r h => by
    unfold vIsi at h
    split at h
    · rename_i v n
      cases r with
      | cons r1 t => cases t with
        | cons r2 t =>
          cases t
          cases r2
          rename_i u
          split at h
          · rename_i t e
            by_cases hn : ["bool", "int", "str", "tuple", "list", "dict"].contains n = true
            · rw [if_pos hn] at h
              have k1 := List.all_eq_true.mp (List.all_eq_true.mp kitB_all t (tyName_mem e)) n (List.contains_iff_mem.mp hn)
              exact ⟨u, .ty n, .type t, .type n, _, rfl, .ty n, tyX_of rel e r1, kit_ty (of_decide_eq_true k1), post_ok h (Nx.refl rel) (by rw [PV.bd]) (.bl _)⟩
            · rw [if_neg hn] at h
              exact h.elim
          · exact h.elim
    · exact h.elim
  gd := fun a s => by
    unfold vIsi
    split
    · split
      · split
        · exact Gd.refl s
        · trivial
      · trivial
    · trivial
end
end Bi

end
section
set_option Elab.async false
set_option linter.all false
set_option autoImplicit false
set_option maxRecDepth 100000
set_option maxHeartbeats 1000000
/-! Bi7: conversions, sorted, the methods of lists, dicts and texts. -/
namespace Bi
open PySem L2
section
variable {K : PySem.W.Frag} {mg : Str → Option Value}
/-! ### list(x), tuple(x), dict(x) -/
def kPV : Key → PV
  | .inl i => .int i
  | .inr x => .str x
theorem kPV_rv {H : Hp} {ρ : Nat → Addr} (k : Key) : RV K mg H ρ (kPV k) (kV k) := by
  cases k with
  | inl i => exact .int i
  | inr i => exact .str i
theorem kPV_bd (n : Nat) (k : Key) : (kPV k).bd n = true := by
  cases k with
  | inl i => show PV.bd n (.int i) = true; rw [PV.bd]
  | inr i => show PV.bd n (.str i) = true; rw [PV.bd]
theorem keys_rvs {H : Hp} {ρ : Nat → Addr} : ∀ {kvs : List (Key × PV)} {ws : List (Key × V)}, RKs K mg H ρ kvs ws → RVs K mg H ρ (kvs.map fun kv => kPV kv.1) (ws.map fun kv => kV kv.1)
  | _, _, .nil => .nil
  | _, _, .cons h t => .cons (by
    have e := h.1
    dsimp only
    rw [← e]
    exact kPV_rv _) (keys_rvs t)
theorem keys_bd (n : Nat) (kvs : List (Key × PV)) : (kvs.map fun kv => kPV kv.1).all (PV.bd n) = true := List.all_eq_true.mpr fun x hx => by
  obtain ⟨q, _, rfl⟩ := List.mem_map.mp hx
  exact kPV_bd n q.1
def vList : List PV → Sg → R PV
  | [v], s => (match seqOf v s with
    | some xs => .ok (.ref s.g.length) (s.push (.lst xs))
    | none => (match v with
      | .ref n => (match s.g[n]? with | some (.dic kvs _) => .ok (.ref s.g.length) (s.push (.lst (kvs.map fun kv => kPV kv.1))) | _ => .bad)
      | _ => .bad))
  | _, _ => .bad
abbrev rList2 (K : PySem.W.Frag) : List V → Hp → VK → Prop := fun xs H Q => (∃ p ys, xs = [.ref p] ∧ (SqL K H p ys ∨ SqT K H p ys) ∧ ∀ l, H l = none → Q (.ref l) (upd H l (.lst ys))) ∨
  (∃ (a : Addr) (kvs : List (Key × V)), xs = [.ref a] ∧ Rd H a (.dK kvs) ∧ ∀ p, H p = none → Q (.ref p) (upd H p (.lst (kvs.map fun kv => kV kv.1))))
theorem vr_list : VRL K mg vList (rList2 K) where
  run := fun W ρ s H σ a x Q rel b r h => by
    unfold vList at h
    split at h
    · rename_i v
      cases r with
      | cons r1 t =>
        cases t
        rename_i u
        rw [List.all_cons, List.all_nil, Bool.and_true] at b
        cases e1 : seqOf v s with
        | some xs =>
          rw [e1] at h
          obtain ⟨p, us, rfl, q, rs, hb⟩ := seqOf_rv rel b e1 r1
          exact .inl ⟨p, us, rfl, q, fun l hl => post_ok h (rv_lst_new rel hl hb rs) bd_ref_new rv_ref_new⟩
        | none =>
          rw [e1] at h
          cases v with
          | ref n =>
            cases r1
            simp only at h
            cases e2 : s.g[n]? with
            | none => rw [e2] at h; exact h.elim
            | some o =>
              rw [e2] at h
              cases o with
              | dic kvs lk =>
                obtain ⟨ws, q, rs⟩ := dic_of rel e2
                exact .inr ⟨ρ n, ws, rfl, q, fun l hl => post_ok h (rv_lst_new rel hl (keys_bd _ _) (keys_rvs rs)) bd_ref_new rv_ref_new⟩
              | _ => exact h.elim
          | _ => exact h.elim
    · exact h.elim
  gd := fun a s => by
    unfold vList
    split
    · split
      · exact Gd.push _ _
      · split
        · split
          · exact Gd.push _ _
          · trivial
        · trivial
    · trivial
theorem callr_list {X : Cx} (hc : X.calm = true) : CallR X (.type "list") (rList2 X.K) := CallR.or call_list_of (call_listD hc)
def vTuple : List PV → Sg → R PV
  | [v], s => (match seqOf v s with
    | some xs => .ok (.tup xs) s
    | none => .bad)
  | _, _ => .bad
abbrev rTuple (K : PySem.W.Frag) : List V → Hp → VK → Prop := fun xs H Q => ∃ p ys, xs = [.ref p] ∧ ((SqL K H p ys ∧ ∀ l, H l = none → Q (.ref l) (upd H l (.tup ys))) ∨ (SqT K H p ys ∧ Q (.ref p) H))
theorem vr_tuple : VRL K mg vTuple (rTuple K) where
  run := fun W ρ s H σ a x Q rel b r h => by
    unfold vTuple at h
    split at h
    · rename_i v
      cases r with
      | cons r1 t =>
        cases t
        rename_i u
        rw [List.all_cons, List.all_nil, Bool.and_true] at b
        cases e1 : seqOf v s with
        | some xs =>
          rw [e1] at h
          by_cases ht : ∃ ys, v = .tup ys
          · obtain ⟨ys, rfl⟩ := ht
            cases e1
            obtain ⟨p, us, rfl, q, rs⟩ := RV.tup_iff.mp r1
            exact ⟨p, us, rfl, .inr ⟨q, post_ok h (Nx.refl rel) b r1⟩⟩
          · have e' : lstOf v s = some xs := by
              cases v with
              | tup ys => exact absurd ⟨ys, rfl⟩ ht
              | _ => exact e1
            obtain ⟨p, us, rfl, q, rs, hb⟩ := lstOf_rv rel b e' r1
            refine ⟨p, us, rfl, .inl ⟨q, fun l hl => ?_⟩⟩
            obtain ⟨n, r'⟩ := rv_tup_new rel hl hb rs
            exact post_ok h n (by rw [bd_tup]; exact hb) r'
        | none => rw [e1] at h; exact h.elim
    · exact h.elim
  gd := fun a s => by
    unfold vTuple
    split
    · split
      · exact Gd.refl _
      · trivial
    · trivial
/-- a pair of a key and a value -/
def asKV : PV → Option (Key × PV)
  | .tup [k, v] => (keyOf k).map fun k => (k, v)
  | _ => none
theorem asKV_shape {x : PV} {k : Key} {v : PV} (e : asKV x = some (k, v)) : ∃ a, x = .tup [a, v] ∧ keyOf a = some k := by
  unfold asKV at e
  split at e
  · rename_i a b
    cases e1 : keyOf a with
    | none => rw [e1] at e; cases e
    | some q =>
      rw [e1] at e
      have e2 := Option.some.inj e
      cases e2
      exact ⟨a, rfl, e1⟩
  · cases e
theorem kvs_of {H : Hp} {ρ : Nat → Addr} {n : Nat} : ∀ {xs : List PV} {kvs : List (Key × PV)} {us : List V}, xs.mapM asKV = some kvs → xs.all (PV.bd n) = true → RVs K mg H ρ xs us →
    ∃ (ps : List Addr) (ws : List (Key × V)), us = ps.map V.ref ∧ Paired (fun p kv => SqT K H p [kV kv.1, kv.2]) ps ws ∧ RKs K mg H ρ kvs ws ∧ (kvs.all fun kv => kv.2.bd n) = true
  | [], kvs, us, e, _, r => by
    cases r
    have e' : some ([] : List (Key × PV)) = some kvs := by simpa using e
    rw [← Option.some.inj e']
    exact ⟨[], [], rfl, .nil, .nil, rfl⟩
  | x :: xs, kvs, us, e, b, r => by
    obtain ⟨⟨k, v⟩, ys, e1, e2, rfl⟩ := mapM_cons e
    rw [List.all_cons, Bool.and_eq_true] at b
    cases r with
    | cons h t =>
      obtain ⟨ps, ws, h1, h2, h3, h4⟩ := kvs_of e2 b.2 t
      obtain ⟨a, rfl, ek⟩ := asKV_shape e1
      obtain ⟨p, vs, rfl, q, rs⟩ := RV.tup_iff.mp h
      have b1 := b.1
      rw [bd_tup] at b1
      simp only [List.all_cons, List.all_nil, Bool.and_true, Bool.and_eq_true] at b1
      cases rs with
      | cons r1 rs => cases rs with
        | cons r2 rs =>
          cases rs
          rename_i u1 u2
          refine ⟨p :: ps, (k, u2) :: ws, by rw [h1]; rfl, .cons ?_ h2, .cons ⟨rfl, r2⟩ h3, ?_⟩
          · have : u1 = kV k := keyOf_rv ek r1
            rw [← this]
            exact q
          · rw [List.all_cons, h4, b1.2]
            rfl
def dMerge {κ α : Type} [DecidableEq κ] (kvs more : List (κ × α)) : List (κ × α) := more.foldl (fun acc kv => dPut acc kv.1 kv.2) kvs
theorem any_key {κ : Type} [DecidableEq κ] {H : Hp} {ρ : Nat → Addr} (k : κ) : ∀ {kvs : List (κ × PV)} {ws : List (κ × V)}, RKs K mg H ρ kvs ws → (kvs.any fun kv => decide (kv.1 = k)) = (ws.any fun kv => decide (kv.1 = k))
  | _, _, .nil => rfl
  | _, _, .cons h t => by rw [List.any_cons, List.any_cons, any_key k t, h.1]
theorem dPut_rv {κ : Type} [DecidableEq κ] {H : Hp} {ρ : Nat → Addr} {k : κ} {v : PV} {u : V} (r : RV K mg H ρ v u) {kvs : List (κ × PV)} {ws : List (κ × V)} (h : RKs K mg H ρ kvs ws) : RKs K mg H ρ (dPut kvs k v) (putK ws k u) := by
  unfold dPut putK
  rw [any_key k h]
  by_cases c : (ws.any fun kv => decide (kv.1 = k)) = true
  · rw [if_pos c, if_pos c]
    clear c
    induction h with
    | nil => exact .nil
    | @cons a b l1 l2 h t ih =>
      refine .cons ?_ ih
      have e0 := h.1
      dsimp only
      rw [← e0]
      by_cases e : a.1 = k
      · rw [if_pos e, if_pos e]
        exact ⟨rfl, r⟩
      · rw [if_neg e, if_neg e]
        exact h
  · rw [if_neg c, if_neg c]
    exact paired_append h (.cons ⟨rfl, r⟩ .nil)
theorem dPut_bd {κ : Type} [DecidableEq κ] {n : Nat} {k : κ} {v : PV} {kvs : List (κ × PV)} (h : (kvs.all fun kv => kv.2.bd n) = true) (b : v.bd n = true) : ((dPut kvs k v).all fun kv => kv.2.bd n) = true := by
  unfold dPut
  split
  · refine List.all_eq_true.mpr fun x hx => ?_
    obtain ⟨q, hq, rfl⟩ := List.mem_map.mp hx
    split
    · exact b
    · exact List.all_eq_true.mp h q hq
  · rw [List.all_append, h]
    show (true && ((v.bd n) && true)) = true
    rw [b]
    rfl
theorem dMerge_rv {H : Hp} {ρ : Nat → Addr} {more : List (Key × PV)} {mws : List (Key × V)} (r : RKs K mg H ρ more mws) : ∀ {kvs : List (Key × PV)} {ws : List (Key × V)}, RKs K mg H ρ kvs ws → RKs K mg H ρ (dMerge kvs more) (mergeK ws mws) := by
  induction r with
  | nil => exact fun h => h
  | @cons a b l1 l2 r t ih =>
    intro kvs ws h
    have q := dPut_rv (k := a.1) r.2 h
    have e : putK ws a.1 b.2 = putK ws b.1 b.2 := by rw [r.1]
    rw [e] at q
    exact ih q
theorem dMerge_bd {n : Nat} : ∀ {more kvs : List (Key × PV)}, (kvs.all fun kv => kv.2.bd n) = true → (more.all fun kv => kv.2.bd n) = true → ((dMerge kvs more).all fun kv => kv.2.bd n) = true
  | [], kvs, h, _ => h
  | q :: more, kvs, h, b => by
    rw [List.all_cons, Bool.and_eq_true] at b
    exact dMerge_bd (more := more) (dPut_bd h b.1) b.2
/-- a new dict -/
theorem rv_dic_new {ρ : Nat → Addr} {s : Sg} {H : Hp} {kvs : List (Key × PV)} {ws : List (Key × V)} {a : Addr} (rel : Rel K mg ρ s H) (ha : H a = none) (hb : (kvs.all fun kv => kv.2.bd s.g.length) = true) (hr : RKs K mg H ρ kvs ws) :
    Nx K mg ρ s H (rput ρ s.g.length a) (s.push (.dic kvs false)) (upd H a (.dK ws)) :=
  rel.push ha hb ⟨ws, upd_same, RKs.mono (Keep.new ha) (fun _ _ => rfl) hr hb⟩
def vDict : List PV → Sg → R PV
  | [.ref n], s => (match s.g[n]? with
    | some (.lst xs) => (match xs.mapM asKV with | some kvs => .ok (.ref s.g.length) (s.push (.dic (dMerge [] kvs) false)) | none => .bad)
    | some (.dic kvs _) => .ok (.ref s.g.length) (s.push (.dic kvs false))
    | _ => .bad)
  | _, _ => .bad
abbrev rDict2 (K : PySem.W.Frag) : List V → Hp → VK → Prop := fun xs H Q => (∃ (a : Addr) (ps : List Addr) (kvs : List (Key × V)), xs = [.ref a] ∧ SqL K H a (ps.map V.ref) ∧ Paired (fun p kv => SqT K H p [kV kv.1, kv.2]) ps kvs ∧
    ∀ p, H p = none → Q (.ref p) (upd H p (.dK (mergeK [] kvs)))) ∨ (∃ (a : Addr) (kvs : List (Key × V)), xs = [.ref a] ∧ Rd H a (.dK kvs) ∧ ∀ p, H p = none → Q (.ref p) (upd H p (.dK kvs)))
theorem vr_dict : VRL K mg vDict (rDict2 K) where
  run := fun W ρ s H σ a x Q rel b r h => by
    unfold vDict at h
    split at h
    · rename_i n
      cases r with
      | cons r1 t =>
        cases t
        cases r1
        cases e1 : s.g[n]? with
        | none => rw [e1] at h; exact h.elim
        | some o =>
          rw [e1] at h
          cases o with
          | lst xs =>
            simp only at h
            cases e2 : xs.mapM asKV with
            | none => rw [e2] at h; exact h.elim
            | some kvs =>
              rw [e2] at h
              obtain ⟨us, q, rs⟩ := rel.cell n _ e1
              obtain ⟨ps, ws, h1, h2, h3, h4⟩ := kvs_of e2 (lst_bd rel e1) rs
              subst h1
              exact .inl ⟨ρ n, ps, ws, rfl, SqL.of q, h2, fun l hl => post_ok h (rv_dic_new rel hl (dMerge_bd (by rfl) h4) (dMerge_rv h3 .nil)) bd_ref_new rv_ref_new⟩
          | dic kvs lk =>
            obtain ⟨ws, q, rs⟩ := dic_of rel e1
            exact .inr ⟨ρ n, ws, rfl, q, fun l hl => post_ok h (rv_dic_new rel hl (rel.wf n _ e1) rs) bd_ref_new rv_ref_new⟩
          | _ => exact h.elim
    · exact h.elim
  gd := fun a s => by
    unfold vDict
    split
    · split
      · split
        · exact Gd.push _ _
        · trivial
      · exact Gd.push _ _
      · trivial
    · trivial
theorem callr_dict {X : Cx} (hc : X.calm = true) : CallR X (.type "dict") (rDict2 X.K) := CallR.or (call_dictP hc) call_dictD

/-! ### sorted -/
def insI (x : Int) : List Int → List Int
  | [] => [x]
  | y :: r => if x ≤ y then x :: y :: r else y :: insI x r
def sortI : List Int → List Int
  | [] => []
  | x :: r => insI x (sortI r)
theorem insI_perm (x : Int) : ∀ l : List Int, (insI x l).Perm (x :: l)
  | [] => .refl _
  | y :: r => by
    unfold insI
    split
    · exact .refl _
    · exact (List.Perm.cons y (insI_perm x r)).trans (List.Perm.swap x y r)
theorem sortI_perm : ∀ l : List Int, (sortI l).Perm l
  | [] => .refl _
  | x :: r => (insI_perm x _).trans (List.Perm.cons x (sortI_perm r))
theorem insI_sorted (x : Int) : ∀ l : List Int, l.Pairwise (· ≤ ·) → (insI x l).Pairwise (· ≤ ·)
  | [], _ => List.pairwise_singleton _ _
  | y :: r, h => by
    unfold insI
    have h' := List.pairwise_cons.mp h
    split
    · rename_i c
      refine List.pairwise_cons.mpr ⟨fun z hz => ?_, h⟩
      rcases List.mem_cons.mp hz with e | hz
      · rw [e]; exact c
      · exact Int.le_trans c (h'.1 z hz)
    · rename_i c
      refine List.pairwise_cons.mpr ⟨fun z hz => ?_, insI_sorted x r h'.2⟩
      rcases List.mem_cons.mp ((insI_perm x r).mem_iff.mp hz) with e | hz
      · rw [e]; omega
      · exact h'.1 z hz
theorem sortI_sorted : ∀ l : List Int, (sortI l).Pairwise (· ≤ ·)
  | [] => List.Pairwise.nil
  | x :: r => insI_sorted x _ (sortI_sorted r)
theorem sortI_uniq {l m : List Int} (p : m.Perm l) (h : m.Pairwise (· ≤ ·)) : m = sortI l :=
  PySem.W.ksm_same (p.trans (sortI_perm l).symm) h (sortI_sorted l)
/-- pairs of ints, by the first, then by the second -/
def leP (p q : Int × Int) : Bool := if p.1 = q.1 then decide (p.2 ≤ q.2) else decide (p.1 < q.1)
def insP (x : Int × Int) : List (Int × Int) → List (Int × Int)
  | [] => [x]
  | y :: r => if leP x y then x :: y :: r else y :: insP x r
def sortP : List (Int × Int) → List (Int × Int)
  | [] => []
  | x :: r => insP x (sortP r)
theorem leP_iff {p q : Int × Int} : leP p q = true ↔ p.1 < q.1 ∨ (p.1 = q.1 ∧ p.2 ≤ q.2) := by
  unfold leP
  split
  · rename_i e
    rw [decide_eq_true_iff]
    omega
  · rw [decide_eq_true_iff]
    omega
theorem insP_perm (x : Int × Int) : ∀ l : List (Int × Int), (insP x l).Perm (x :: l)
  | [] => .refl _
  | y :: r => by
    unfold insP
    split
    · exact .refl _
    · exact (List.Perm.cons y (insP_perm x r)).trans (List.Perm.swap x y r)
theorem sortP_perm : ∀ l : List (Int × Int), (sortP l).Perm l
  | [] => .refl _
  | x :: r => (insP_perm x _).trans (List.Perm.cons x (sortP_perm r))
theorem insP_sorted (x : Int × Int) : ∀ l : List (Int × Int), (l.Pairwise fun a b => leP a b = true) → (insP x l).Pairwise fun a b => leP a b = true
  | [], _ => List.pairwise_singleton _ _
  | y :: r, h => by
    unfold insP
    have h' := List.pairwise_cons.mp h
    split
    · rename_i c
      refine List.pairwise_cons.mpr ⟨fun z hz => ?_, h⟩
      rcases List.mem_cons.mp hz with e | hz
      · rw [e]; exact c
      · have a := leP_iff.mp c
        have b := leP_iff.mp (h'.1 z hz)
        exact leP_iff.mpr (by omega)
    · rename_i c
      refine List.pairwise_cons.mpr ⟨fun z hz => ?_, insP_sorted x r h'.2⟩
      rcases List.mem_cons.mp ((insP_perm x r).mem_iff.mp hz) with e | hz
      · rw [e]
        have a : ¬ (x.1 < y.1 ∨ (x.1 = y.1 ∧ x.2 ≤ y.2)) := fun q => c (leP_iff.mpr q)
        exact leP_iff.mpr (by omega)
      · exact h'.1 z hz
theorem sortP_sorted : ∀ l : List (Int × Int), (sortP l).Pairwise fun a b => leP a b = true
  | [] => List.Pairwise.nil
  | x :: r => insP_sorted x _ (sortP_sorted r)
theorem sortP_uniq {l m : List (Int × Int)} (p : m.Perm l) (h : m.Pairwise fun a b => leP a b = true) : m = sortP l :=
  List.Perm.eq_of_pairwise (fun x y _ _ h1 h2 => by
    have a := leP_iff.mp h1
    have b := leP_iff.mp h2
    exact Prod.ext (by omega) (by omega)) h (sortP_sorted l) (p.trans (sortP_perm l).symm)
def prPV (p : Int × Int) : PV := .tup [.int p.1, .int p.2]
def vSorted : List PV → Sg → R PV
  | [v], s => (match seqOf v s with
    | some xs => (match xs.mapM asI with
      | some ns => .ok (.ref s.g.length) (s.push (.lst ((sortI ns).map .int)))
      | none => (match xs.mapM asPr with
        | some ps => .ok (.ref s.g.length) (s.push (.lst ((sortP ps).map prPV)))
        | none => .bad))
    | none => .bad)
  | _, _ => .bad
end
end Bi

end
section
set_option Elab.async false
set_option linter.all false
set_option autoImplicit false
set_option maxRecDepth 100000
set_option maxHeartbeats 1000000
/-! Bi8: sorted; the methods of lists, dicts, texts. -/
namespace Bi
open PySem L2
section
variable {K : PySem.W.Frag} {mg : Str → Option Value}
/-- x is a pair of ints -/
def PrAt (K : PySem.W.Frag) (H : Hp) (x : V) (p : Int × Int) : Prop := ∃ t, x = V.ref t ∧ SqT K H t [.int p.1, .int p.2]
/-- sorted(xs), a list of pairs of ints, whatever tuples they are -/
def rSortedPT (K : PySem.W.Frag) : List V → Hp → VK → Prop := fun vs H Q => ∃ (a : Addr) (xs : List V) (ps : List (Int × Int)), vs = [V.ref a] ∧ SqL K H a xs ∧ Paired (PrAt K H) xs ps ∧
  ∀ ys p ps', ps'.Perm ps → (ps'.Pairwise fun a b => leP a b = true) → Paired (PrAt K H) ys ps' → H p = none → Q (.ref p) (upd H p (.lst ys))
open Classical in
noncomputable def kOf (K : PySem.W.Frag) (H : Hp) (x : V) : Int × Int := if h : ∃ p, PrAt K H x p then Classical.choose h else (0, 0)
theorem paired_mem {α β : Type} {F : α → β → Prop} : ∀ {xs : List α} {ys : List β}, Paired F xs ys → ∀ x ∈ xs, ∃ y, F x y
  | _, _, .nil, x, h => by cases h
  | _, _, .cons h t, x, hx => by
    rcases List.mem_cons.mp hx with e | hx
    · rw [e]; exact ⟨_, h⟩
    · exact paired_mem t x hx
theorem paired_map_of {α β : Type} {F : α → β → Prop} {k : α → β} (hk : ∀ x y, F x y → k x = y) : ∀ {xs : List α} {ys : List β}, Paired F xs ys → xs.map k = ys
  | _, _, .nil => rfl
  | _, _, .cons h t => by rw [List.map_cons, hk _ _ h, paired_map_of hk t]
theorem paired_map_self {α β : Type} {F : α → β → Prop} {k : α → β} : ∀ {xs : List α}, (∀ x ∈ xs, F x (k x)) → Paired F xs (xs.map k)
  | [], _ => .nil
  | x :: xs, h => .cons (h x (List.mem_cons_self ..)) (paired_map_self fun y hy => h y (List.mem_cons_of_mem _ hy))
theorem prAt_inj {X : Cx} {pins : List (Addr × Obj)} {σ : L2.St} {H : Hp} {s : Shared} (I : L2.Inv X pins σ H s) {x : V} {p q : Int × Int} (h1 : PrAt X.K H x p) (h2 : PrAt X.K H x q) : p = q := by
  obtain ⟨t, rfl, h1⟩ := h1
  obtain ⟨t', e, h2⟩ := h2
  cases e
  have z := I.tuple_inj h1 h2
  have z1 := List.cons.inj z
  have z2 := List.cons.inj z1.2
  exact Prod.ext (V.int.inj z1.1) (V.int.inj z2.1)
theorem kOf_eq {X : Cx} {pins : List (Addr × Obj)} {σ : L2.St} {H : Hp} {s : Shared} (I : L2.Inv X pins σ H s) {x : V} {p : Int × Int} (h : PrAt X.K H x p) : kOf X.K H x = p := by
  have e : ∃ p, PrAt X.K H x p := ⟨p, h⟩
  unfold kOf
  rw [dif_pos e]
  exact prAt_inj I (Classical.choose_spec e) h
theorem cr_sortedPT {X : Cx} : CallR X (.builtin "sorted") (rSortedPT X.K) := by
  intro pins s σ H vs us Q I r h
  obtain ⟨a, xs, ps, rfl, hs, hx, q⟩ := h
  obtain ⟨its, rv, hl, hz⟩ := I.list hs
  obtain ⟨u, rfl, ru⟩ := vals1 r
  obtain rfl : u = Value.ref a := ru
  have hk : ∀ x p, PrAt X.K H x p → kOf X.K H x = p := fun x p h => kOf_eq I h
  obtain ⟨e1, e2⟩ := refs_back rv fun x m => by
    obtain ⟨p, t, e, _⟩ := paired_mem hx x m
    exact ⟨t, e⟩
  refine SrtO.sorted_pairsO (k := fun u => kOf X.K H (backV u)) hl.isList (by rw [← rv.length]; exact hz) (fun v hv => ?_) fun h' d out h1 h2 kp hd hn => ?_
  · obtain ⟨t, rfl⟩ := e2 v hv
    have hm : V.ref t ∈ xs := by rw [e1]; exact List.mem_map.mpr ⟨_, hv, rfl⟩
    obtain ⟨p, hp⟩ := paired_mem hx _ hm
    have ek : kOf X.K H (backV (.ref t)) = p := hk _ _ hp
    obtain ⟨t', e, ht⟩ := hp
    cases e
    obtain ⟨its2, r2, ⟨o, ho, hc, n, hd⟩, _⟩ := I.tuple ht
    obtain ⟨u1, u2, rfl, ri, rj⟩ := vals2 r2
    obtain ⟨t1, rfl⟩ := ri
    obtain ⟨t2, rfl⟩ := rj
    rw [ek]
    exact ⟨t, o, t1, t2, n, rfl, ho, hc, hd⟩
  · have h3 : ∀ u ∈ out, ∃ a, u = Value.ref a := fun u hu => e2 u (h2.perm.mem_iff.mp hu)
    obtain ⟨n, hn⟩ := hn
    have hperm : (out.map backV).Perm xs := by rw [e1]; exact h2.perm.map backV
    have hmem : ∀ y ∈ out.map backV, PrAt X.K H y (kOf X.K H y) := fun y hy => by
      obtain ⟨p, hp⟩ := paired_mem hx y (hperm.mem_iff.mp hy)
      rw [hk _ _ hp]
      exact hp
    have hps : xs.map (kOf X.K H) = ps := paired_map_of hk hx
    refine ⟨.ref d, upd H d (.lst (out.map backV)), I.laid (t' := s.toks) kp hd ⟨?_, out, n, vals_back h3, hn⟩, rfl, q _ d ((out.map backV).map (kOf X.K H)) ?_ ?_ (paired_map_self hmem) (I.hok.fresh hd)⟩
    · rw [hperm.length_eq]
      exact hz
    · rw [← hps]
      exact hperm.map _
    · rw [List.map_map]
      refine List.pairwise_map.mpr (h1.imp fun {x y} h => ?_)
      have z := SrtO.lexB_no.mp h
      exact leP_iff.mpr (by
        show (kOf X.K H (backV x)).1 < (kOf X.K H (backV y)).1 ∨ ((kOf X.K H (backV x)).1 = (kOf X.K H (backV y)).1 ∧ (kOf X.K H (backV x)).2 ≤ (kOf X.K H (backV y)).2)
        omega)
abbrev rSorted2 (K : PySem.W.Frag) : List V → Hp → VK → Prop := fun xs H Q => (rSortedI K xs H Q ∨ rSortedTI K xs H Q) ∨ rSortedPT K xs H Q
def vSortedL : List PV → Sg → R PV
  | [v], s => (match seqOf v s with
    | some xs => (match xs.mapM asI with
      | some ns => .ok (.ref s.g.length) (s.push (.lst ((sortI ns).map .int)))
      | none => (match (lstOf v s).bind fun ys => ys.mapM asPr with
        | some ps => .ok (.ref s.g.length) (s.push (.lst ((sortP ps).map prPV)))
        | none => .bad))
    | none => .bad)
  | _, _ => .bad
theorem ints_rvs {H : Hp} {ρ : Nat → Addr} : ∀ ns : List Int, RVs K mg H ρ (ns.map .int) (ns.map V.int)
  | [] => .nil
  | n :: ns => .cons (.int n) (ints_rvs ns)
theorem ints_bd (n : Nat) (ns : List Int) : (ns.map PV.int).all (PV.bd n) = true := List.all_eq_true.mpr fun x hx => by
  obtain ⟨q, _, rfl⟩ := List.mem_map.mp hx
  rw [PV.bd]
theorem prs_rvs {H : Hp} {ρ : Nat → Addr} : ∀ {ys : List V} {ps : List (Int × Int)}, Paired (PrAt K H) ys ps → RVs K mg H ρ (ps.map prPV) ys
  | _, _, .nil => .nil
  | _, _, .cons h t => .cons (by
      obtain ⟨t, rfl, h⟩ := h
      exact RV.tup_iff.mpr ⟨t, _, rfl, h, .cons (.int _) (.cons (.int _) .nil)⟩) (prs_rvs t)
theorem prs_bd (n : Nat) (ps : List (Int × Int)) : (ps.map prPV).all (PV.bd n) = true := List.all_eq_true.mpr fun x hx => by
  obtain ⟨q, _, rfl⟩ := List.mem_map.mp hx
  unfold prPV
  rw [bd_tup]
  simp [PV.bd]
theorem asPr_shape {x : PV} {p : Int × Int} (e : asPr x = some p) : x = prPV p := by
  unfold asPr at e
  split at e
  · cases e; rfl
  · cases e
theorem prs_at {H : Hp} {ρ : Nat → Addr} : ∀ {xs : List PV} {ps : List (Int × Int)} {us : List V}, xs.mapM asPr = some ps → RVs K mg H ρ xs us → Paired (PrAt K H) us ps
  | [], ps, us, e, r => by
    cases r
    have e' : some ([] : List (Int × Int)) = some ps := by simpa using e
    rw [← Option.some.inj e']
    exact .nil
  | x :: xs, ps, us, e, r => by
    obtain ⟨p, ys, e1, e2, rfl⟩ := mapM_cons e
    cases r with
    | cons h t =>
      have ex := asPr_shape e1
      subst ex
      obtain ⟨a, vs, rfl, q, rs⟩ := RV.tup_iff.mp h
      cases rs with
      | cons r1 rs => cases rs with
        | cons r2 rs =>
          cases rs
          cases r1
          cases r2
          exact .cons ⟨a, rfl, q⟩ (prs_at e2 t)
theorem vr_sortedL : VRL K mg vSortedL (rSorted2 K) where
  run := fun W ρ s H σ a x Q rel b r h => by
    unfold vSortedL at h
    split at h
    · rename_i v
      cases r with
      | cons r1 t =>
        cases t
        rw [List.all_cons, List.all_nil, Bool.and_true] at b
        cases e1 : seqOf v s with
        | none => rw [e1] at h; exact h.elim
        | some xs =>
          rw [e1] at h
          have e10 := e1
          obtain ⟨p, us, rfl, q, rs, hb⟩ := seqOf_rv rel b e1 r1
          simp only at h
          cases e2 : xs.mapM asI with
          | some ns =>
            rw [e2] at h
            have z : us = ns.map V.int := mapM_rvs (f := asI) (g := V.int) asI_rv e2 rs
            subst z
            rcases q with q | q
            · refine .inl (.inl ⟨p, ns, rfl, q, fun ns' l hp hs hl => ?_⟩)
              rw [sortI_uniq hp hs]
              exact post_ok h (rv_lst_new rel hl (ints_bd _ _) (ints_rvs _)) bd_ref_new rv_ref_new
            · refine .inl (.inr ⟨p, ns, rfl, q, fun ns' l hp hs hl => ?_⟩)
              rw [sortI_uniq hp hs]
              exact post_ok h (rv_lst_new rel hl (ints_bd _ _) (ints_rvs _)) bd_ref_new rv_ref_new
          | none =>
            rw [e2] at h
            simp only at h
            cases e3 : (lstOf v s).bind fun ys => ys.mapM asPr with
            | none => rw [e3] at h; exact h.elim
            | some ps =>
              rw [e3] at h
              clear q rs hb
              obtain ⟨zs, e4, e3⟩ := Option.bind_eq_some_iff.mp e3
              obtain ⟨p, us, hpu, q, rs, hb⟩ := lstOf_rv rel b e4 r1
              cases hpu
              refine .inr ⟨p, us, ps, rfl, q, prs_at e3 rs, fun ys l ps' hp hs hy hl => ?_⟩
              rw [sortP_uniq hp hs] at hy
              exact post_ok h (rv_lst_new rel hl (prs_bd _ _) (prs_rvs hy)) bd_ref_new rv_ref_new
    · exact h.elim
  gd := fun a s => by
    unfold vSortedL
    split
    · split
      · split
        · exact Gd.push _ _
        · split
          · exact Gd.push _ _
          · trivial
      · trivial
    · trivial
theorem callr_sorted {X : Cx} : CallR X (.builtin "sorted") (rSorted2 X.K) := CallR.or (CallR.or cr_sortedI cr_sortedTI) cr_sortedPT
end
end Bi

end
section
set_option Elab.async false
set_option linter.all false
set_option autoImplicit false
set_option maxRecDepth 100000
set_option maxHeartbeats 1000000
/-! Bi9: the methods of lists, dicts, texts. -/
namespace Bi
open PySem L2
section
variable {K : PySem.W.Frag} {mg : Str → Option Value}
/-- a list is written -/
theorem rel_wr_lst {ρ : Nat → Addr} {s : Sg} {H : Hp} {n : Nat} {xs ys : List PV} {us : List V} (rel : Rel K mg ρ s H) (e : s.g[n]? = some (.lst xs)) (hb : ys.all (PV.bd s.g.length) = true) (hr : RVs K mg H ρ ys us) :
    Nx K mg ρ s H ρ (s.wr n (.lst ys)) (upd H (ρ n) (.lst us)) := by
  obtain ⟨w, hw, w1, w2⟩ := (rel.cell n _ e).there
  have kp : Keep K H (upd H (ρ n) (.lst us)) := Keep.updH fun v e => by
    rw [hw] at e
    cases e
    exact ⟨w1, w2⟩
  exact rel.wr (o' := .lst ys) e (fun _ z => by cases z) hb ⟨us, upd_same, RVs.mono kp (fun _ _ => rfl) hr hb⟩
theorem rel_wr_dic {ρ : Nat → Addr} {s : Sg} {H : Hp} {n : Nat} {kvs0 kvs : List (Key × PV)} {us : List (Key × V)} (rel : Rel K mg ρ s H) (e : s.g[n]? = some (.dic kvs0 false)) (hb : (kvs.all fun kv => kv.2.bd s.g.length) = true) (hr : RKs K mg H ρ kvs us) :
    Nx K mg ρ s H ρ (s.wr n (.dic kvs false)) (upd H (ρ n) (.dK us)) := by
  obtain ⟨w, hw, w1, w2⟩ := (rel.cell n _ e).there
  have kp : Keep K H (upd H (ρ n) (.dK us)) := Keep.updH fun v e => by
    rw [hw] at e
    cases e
    exact ⟨w1, w2⟩
  exact rel.wr (o' := .dic kvs false) e (fun _ z => by cases z) hb ⟨us, upd_same, RKs.mono kp (fun _ _ => rfl) hr hb⟩
theorem bd_non {n : Nat} : PV.non.bd n = true := by rw [PV.bd]
/-- the list at v -/
def atL (v : PV) (s : Sg) (f : Nat → List PV → R PV) : R PV := match v with
  | .ref n => (match s.g[n]? with | some (.lst xs) => f n xs | _ => .bad)
  | _ => .bad
theorem atL_run {α : Prop} {W : WX} {ρ : Nat → Addr} {s : Sg} {H : Hp} {σ : L2.St} {o : PV} {z : V} {f : Nat → List PV → R PV} {Q : VK} (rel : Rel K mg ρ s H) (r : RV K mg H ρ o z) (h : PostE K mg W ρ s H σ Q (atL o s f))
    (k : ∀ n xs us, z = .ref (ρ n) → s.g[n]? = some (.lst xs) → H (ρ n) = some (.lst us) → RVs K mg H ρ xs us → xs.all (PV.bd s.g.length) = true → PostE K mg W ρ s H σ Q (f n xs) → α) : α := by
  unfold atL at h
  cases o with
  | ref n =>
    cases r
    simp only at h
    cases e : s.g[n]? with
    | none => rw [e] at h; exact h.elim
    | some ob =>
      rw [e] at h
      cases ob with
      | lst xs =>
        obtain ⟨us, q, rs⟩ := rel.cell n _ e
        exact k n xs us rfl e q rs (lst_bd rel e) h
      | _ => exact h.elim
  | _ => exact h.elim
theorem atL_gd {o : PV} {s : Sg} {f : Nat → List PV → R PV} (h : ∀ n xs, GdR s (f n xs)) : GdR s (atL o s f) := by
  unfold atL
  split
  · split
    · exact h _ _
    · trivial
  · trivial
def vAppend (o : PV) (a : List PV) (s : Sg) : R PV := match a with
  | [v] => atL o s fun n xs => if xs.length < sizeLine then .ok .non (s.wr n (.lst (xs ++ [v]))) else .bad
  | _ => .bad
theorem vr_append : VRM K mg vAppend rAppend where
  run := fun W ρ s H σ o z a x Q rel bo ba ro r h => by
    unfold vAppend at h
    split at h
    · rename_i v
      cases r with
      | cons r1 t =>
        cases t
        rw [List.all_cons, List.all_nil, Bool.and_true] at ba
        refine atL_run rel ro h fun n xs us ez e eH rs hb h => ?_
        by_cases c : xs.length < sizeLine
        · rw [if_pos c] at h
          refine ⟨ρ n, us, _, ez, rfl, eH, by rw [← rs.length]; exact c, ?_⟩
          exact post_ok h (rel_wr_lst rel e (all_append hb (by rw [List.all_cons, ba]; rfl)) (paired_append rs (.cons r1 .nil))) bd_non .non
        · rw [if_neg c] at h; exact h.elim
    · exact h.elim
  gd := fun o a s => by
    unfold vAppend
    split
    · exact atL_gd fun n xs => by
        split
        · exact Gd.wr _ _ _
        · trivial
    · trivial
def vExtend (o : PV) (a : List PV) (s : Sg) : R PV := match a with
  | [v] => atL o s fun n xs => atL v s fun _ zs => if xs.length + zs.length ≤ sizeLine then .ok .non (s.wr n (.lst (xs ++ zs))) else .bad
  | _ => .bad
theorem vr_extend : VRM K mg vExtend rExtend where
  run := fun W ρ s H σ o z a x Q rel bo ba ro r h => by
    unfold vExtend at h
    split at h
    · rename_i v
      cases r with
      | cons r1 t =>
        cases t
        refine atL_run rel ro h fun n xs us ez e eH rs hb h => ?_
        refine atL_run rel r1 h fun m zs ws ez2 e2 eH2 rs2 hb2 h => ?_
        by_cases c : xs.length + zs.length ≤ sizeLine
        · rw [if_pos c] at h
          refine ⟨ρ n, ρ m, us, ws, ez, by rw [ez2], eH, eH2, by rw [← rs.length, ← rs2.length]; exact c, ?_⟩
          exact post_ok h (rel_wr_lst rel e (all_append hb hb2) (paired_append rs rs2)) bd_non .non
        · rw [if_neg c] at h; exact h.elim
    · exact h.elim
  gd := fun o a s => by
    unfold vExtend
    split
    · exact atL_gd fun n xs => atL_gd fun m zs => by
        split
        · exact Gd.wr _ _ _
        · trivial
    · trivial
theorem paired_dropLast {α β : Type} {F : α → β → Prop} {xs : List α} {ys : List β} (h : Paired F xs ys) : Paired F xs.dropLast ys.dropLast := by
  rw [List.dropLast_eq_take, List.dropLast_eq_take, h.length]
  exact paired_take _ h
theorem all_sub {p : PV → Bool} {xs ys : List PV} (h : xs.all p = true) (k : ∀ x ∈ ys, x ∈ xs) : ys.all p = true := List.all_eq_true.mpr fun x hx => List.all_eq_true.mp h x (k x hx)
def vPop (o : PV) (a : List PV) (s : Sg) : R PV := match a with
  | [] => atL o s fun n xs => (match xs[xs.length - 1]? with | some y => .ok y (s.wr n (.lst xs.dropLast)) | none => .bad)
  | _ => .bad
theorem vr_pop : VRM K mg vPop rPop where
  run := fun W ρ s H σ o z a x Q rel bo ba ro r h => by
    unfold vPop at h
    split at h
    · cases r
      refine atL_run rel ro h fun n xs us ez e eH rs hb h => ?_
      cases e1 : xs[xs.length - 1]? with
      | none => rw [e1] at h; exact h.elim
      | some y =>
        rw [e1] at h
        obtain ⟨u, e2, r2⟩ := paired_some rs e1
        have by_ : y.bd s.g.length = true := List.all_eq_true.mp hb y (List.mem_of_getElem? e1)
        have n1 := rel_wr_lst rel e (all_sub hb fun x hx => List.dropLast_subset _ hx) (paired_dropLast rs)
        refine ⟨ρ n, us, u, ez, rfl, eH, by rw [← rs.length]; exact e2, ?_⟩
        exact post_ok h n1 (n1.bl by_) (n1.rv r2 by_)
    · exact h.elim
  gd := fun o a s => by
    unfold vPop
    split
    · exact atL_gd fun n xs => by
        split
        · exact Gd.wr _ _ _
        · trivial
    · trivial
def vPopAt (o : PV) (a : List PV) (s : Sg) : R PV := match a with
  | [.int i] => atL o s fun n xs => if ok63 i then (match seqIndex? i xs.length with
    | some k => (match xs[k]? with | some y => .ok y (s.wr n (.lst (xs.eraseIdx k))) | none => .bad)
    | none => .bad) else .bad
  | _ => .bad
theorem vr_popAt : VRM K mg vPopAt rPopAt where
  run := fun W ρ s H σ o z a x Q rel bo ba ro r h => by
    unfold vPopAt at h
    split at h
    · rename_i i
      cases r with
      | cons r1 t =>
        cases t
        cases r1
        refine atL_run rel ro h fun n xs us ez e eH rs hb h => ?_
        by_cases c : ok63 i = true
        · rw [if_pos c] at h
          obtain ⟨c1, c2⟩ := Bool.and_eq_true_iff.mp (ok63_of c)
          cases e0 : seqIndex? i xs.length with
          | none => rw [e0] at h; exact h.elim
          | some k =>
            rw [e0] at h
            simp only at h
            cases e1 : xs[k]? with
            | none => rw [e1] at h; exact h.elim
            | some y =>
              rw [e1] at h
              obtain ⟨u, e2, r2⟩ := paired_some rs e1
              have by_ : y.bd s.g.length = true := List.all_eq_true.mp hb y (List.mem_of_getElem? e1)
              have n1 := rel_wr_lst rel e (all_sub hb fun x hx => List.mem_of_mem_eraseIdx hx) (paired_erase k rs)
              refine ⟨ρ n, us, i, k, u, ez, rfl, eH, of_decide_eq_true c1, of_decide_eq_true c2, by rw [← rs.length]; exact e0, e2, ?_⟩
              exact post_ok h n1 (n1.bl by_) (n1.rv r2 by_)
        · rw [if_neg c] at h; exact h.elim
    · exact h.elim
  gd := fun o a s => by
    unfold vPopAt
    split
    · exact atL_gd fun n xs => by
        split
        · split
          · split
            · exact Gd.wr _ _ _
            · trivial
          · trivial
        · trivial
    · trivial
/-- the first place of k -/
def idxI (k : Int) : List Int → Option Nat
  | [] => none
  | x :: r => if x = k then some 0 else (idxI k r).map (· + 1)
theorem idxI_spec {k : Int} : ∀ {l : List Int} {j : Nat}, idxI k l = some j → l[j]? = some k ∧ ∀ m : Nat, m < j → l[m]? ≠ some k
  | [], j, e => by cases e
  | x :: r, j, e => by
    unfold idxI at e
    by_cases c : x = k
    · rw [if_pos c] at e
      cases e
      exact ⟨by rw [c]; rfl, fun m h => absurd h (Nat.not_lt_zero _)⟩
    · rw [if_neg c] at e
      cases e1 : idxI k r with
      | none => rw [e1] at e; cases e
      | some i =>
        rw [e1] at e
        cases e
        obtain ⟨h1, h2⟩ := idxI_spec e1
        refine ⟨h1, fun m h => ?_⟩
        cases m with
        | zero => exact fun z => c (Option.some.inj z)
        | succ m => exact h2 m (Nat.lt_of_succ_lt_succ h)
def vRemove (o : PV) (a : List PV) (s : Sg) : R PV := match a with
  | [.int k] => atL o s fun n xs => (match xs.mapM asI with
    | some ns => (match idxI k ns with | some j => .ok .non (s.wr n (.lst ((ns.eraseIdx j).map .int))) | none => .bad)
    | none => .bad)
  | _ => .bad
theorem vr_remove : VRM K mg vRemove rRemI where
  run := fun W ρ s H σ o z a x Q rel bo ba ro r h => by
    unfold vRemove at h
    split at h
    · rename_i k
      cases r with
      | cons r1 t =>
        cases t
        cases r1
        refine atL_run rel ro h fun n xs us ez e eH rs hb h => ?_
        cases e2 : xs.mapM asI with
        | none => rw [e2] at h; exact h.elim
        | some ns =>
          rw [e2] at h
          simp only at h
          have z : us = ns.map V.int := mapM_rvs (f := asI) (g := V.int) asI_rv e2 rs
          subst z
          cases e3 : idxI k ns with
          | none => rw [e3] at h; exact h.elim
          | some j =>
            rw [e3] at h
            obtain ⟨h1, h2⟩ := idxI_spec e3
            exact ⟨ρ n, ns, k, j, ez, rfl, eH, h1, h2, post_ok h (rel_wr_lst rel e (ints_bd _ _) (ints_rvs _)) bd_non .non⟩
    · exact h.elim
  gd := fun o a s => by
    unfold vRemove
    split
    · exact atL_gd fun n xs => by
        split
        · split
          · exact Gd.wr _ _ _
          · trivial
        · trivial
    · trivial
def vCount (o : PV) (a : List PV) (s : Sg) : R PV := match a with
  | [.int k] => atL o s fun n xs => (match xs.mapM asI with
    | some ns => .ok (.int (ns.count k : Nat)) s
    | none => .bad)
  | _ => .bad
theorem vr_count : VRM K mg vCount (rCntI K) where
  run := fun W ρ s H σ o z a x Q rel bo ba ro r h => by
    unfold vCount at h
    split at h
    · rename_i k
      cases r with
      | cons r1 t =>
        cases t
        cases r1
        refine atL_run rel ro h fun n xs us ez e eH rs hb h => ?_
        cases e2 : xs.mapM asI with
        | none => rw [e2] at h; exact h.elim
        | some ns =>
          rw [e2] at h
          have z : us = ns.map V.int := mapM_rvs (f := asI) (g := V.int) asI_rv e2 rs
          subst z
          exact ⟨ρ n, ns, k, ez, rfl, SqL.of eH, post_ok h (Nx.refl rel) (by rw [PV.bd]) (.int _)⟩
    · exact h.elim
  gd := fun o a s => by
    unfold vCount
    split
    · exact atL_gd fun n xs => by
        split
        · exact Gd.refl _
        · trivial
    · trivial
/-- xs.index(y), by ==: y may be any data -/
def idxD (d : PyData) : List PyData → Option Nat
  | [] => none
  | x :: r => if PyData.eqv x d then some 0 else (idxD d r).map (· + 1)
theorem idxD_spec {d : PyData} : ∀ {l : List PyData} {j : Nat}, idxD d l = some j → (∃ z, l[j]? = some z ∧ PyData.eqv z d = true) ∧ ∀ (m : Nat) (z' : PyData), m < j → l[m]? = some z' → PyData.eqv z' d = false
  | [], j, e => by cases e
  | x :: r, j, e => by
    unfold idxD at e
    by_cases c : PyData.eqv x d = true
    · rw [if_pos c] at e
      cases e
      exact ⟨⟨x, rfl, c⟩, fun m z h => absurd h (Nat.not_lt_zero _)⟩
    · rw [if_neg c] at e
      cases e1 : idxD d r with
      | none => rw [e1] at e; cases e
      | some i =>
        rw [e1] at e
        cases e
        obtain ⟨h1, h2⟩ := idxD_spec e1
        refine ⟨h1, fun m z h e => ?_⟩
        cases m with
        | zero =>
          cases e
          exact Bool.eq_false_iff.mpr c
        | succ m => exact h2 m z (Nat.lt_of_succ_lt_succ h) e
def vIndex (o : PV) (a : List PV) (s : Sg) : R PV := match a with
  | [v] => (match toD s dD o, toD s dD v with
    | some (.list ds), some d => if SeqAt.shaped (.list ds) && SeqAt.shaped d then (match idxD d ds with | some j => .ok (.int (j : Nat)) s | none => .bad) else .bad
    | _, _ => .bad)
  | _ => .bad
theorem vr_index : VRM K mg vIndex (rIndexD K) where
  run := fun W ρ s H σ o z a x Q rel bo ba ro r h => by
    unfold vIndex at h
    split at h
    · rename_i v
      cases r with
      | cons r1 t =>
        cases t
        rename_i u
        split at h
        · rename_i ds d e1 e2
          by_cases c : (SeqAt.shaped (.list ds) && SeqAt.shaped d) = true
          · rw [if_pos c] at h
            obtain ⟨c1, c2⟩ := Bool.and_eq_true_iff.mp c
            cases e3 : idxD d ds with
            | none => rw [e3] at h; exact h.elim
            | some j =>
              rw [e3] at h
              obtain ⟨⟨z', h1, h3⟩, h2⟩ := idxD_spec e3
              have q := dp_of rel dD o z _ e1 ro
              have q2 := dp_of rel dD v u _ e2 r1
              have hz : ∃ p, z = V.ref p := by cases q with | lst _ _ => exact ⟨_, rfl⟩
              obtain ⟨p, rfl⟩ := hz
              exact ⟨p, u, d, ds, j, z', rfl, rfl, q, q2, c1, c2, h1, h3, h2, post_ok h (Nx.refl rel) (by rw [PV.bd]) (.int _)⟩
          · rw [if_neg c] at h; exact h.elim
        · exact h.elim
    · exact h.elim
  gd := fun o a s => by
    unfold vIndex
    split
    · split
      · split
        · split
          · exact Gd.refl _
          · trivial
        · trivial
      · trivial
    · trivial
/-! ### texts -/
def vJoin (o : PV) (a : List PV) (s : Sg) : R PV := match o, a with
  | .str z, [v] => (match seqOf v s with
    | some xs => (match xs.mapM asS with
      | some ys => if (ys.map (·.length)).sum + ys.length * z.length ≤ 16777216 then .ok (.str (Txt.join z ys)) s else .bad
      | none => .bad)
    | none => .bad)
  | _, _ => .bad
theorem vr_join : VRM K mg vJoin (fun x xs H Q => ∃ a p, ∃ ys : List Str, x = .str a ∧ xs = [.ref p] ∧ (SqL K H p (ys.map V.str) ∨ SqT K H p (ys.map V.str)) ∧ (ys.map (·.length)).sum + ys.length * a.length ≤ 16777216 ∧ Q (.str (Txt.join a ys)) H) where
  run := fun W ρ s H σ o z a x Q rel bo ba ro r h => by
    unfold vJoin at h
    split at h
    · rename_i w v
      cases ro
      cases r with
      | cons r1 t =>
        cases t
        rw [List.all_cons, List.all_nil, Bool.and_true] at ba
        cases e1 : seqOf v s with
        | none => rw [e1] at h; exact h.elim
        | some xs =>
          rw [e1] at h
          obtain ⟨p, us, rfl, q, rs, hb⟩ := seqOf_rv rel ba e1 r1
          simp only at h
          cases e2 : xs.mapM asS with
          | none => rw [e2] at h; exact h.elim
          | some ys =>
            rw [e2] at h
            have z : us = ys.map V.str := mapM_rvs (f := asS) (g := V.str) asS_rv e2 rs
            subst z
            simp only at h
            by_cases c : (ys.map (·.length)).sum + ys.length * w.length ≤ 16777216
            · rw [if_pos c] at h
              exact ⟨w, p, ys, rfl, rfl, q, c, post_ok h (Nx.refl rel) (by rw [PV.bd]) (.str _)⟩
            · rw [if_neg c] at h; exact h.elim
    · exact h.elim
  gd := fun o a s => by
    unfold vJoin
    split
    · split
      · split
        · split
          · exact Gd.refl _
          · trivial
        · trivial
      · trivial
    · trivial
theorem strs_rvs {H : Hp} {ρ : Nat → Addr} : ∀ ns : List Str, RVs K mg H ρ (ns.map .str) (ns.map V.str)
  | [] => .nil
  | n :: ns => .cons (.str n) (strs_rvs ns)
theorem strs_bd (n : Nat) (ns : List Str) : (ns.map PV.str).all (PV.bd n) = true := List.all_eq_true.mpr fun x hx => by
  obtain ⟨q, _, rfl⟩ := List.mem_map.mp hx
  rw [PV.bd]
def vSplit (o : PV) (a : List PV) (s : Sg) : R PV := match o, a with
  | .str z, [.str b] => if (b.length == 0) = false ∧ z.length + 2 ≤ sizeLine then .ok (.ref s.g.length) (s.push (.lst ((Txt.split z b).map .str))) else .bad
  | _, _ => .bad
theorem vr_split : VRM K mg vSplit (fun x xs H Q => ∃ a b, x = .str a ∧ xs = [.str b] ∧ (b.length == 0) = false ∧ a.length + 2 ≤ sizeLine ∧ rNewStrs (Txt.split a b) H Q) where
  run := fun W ρ s H σ o z a x Q rel bo ba ro r h => by
    unfold vSplit at h
    split at h
    · rename_i w b
      cases ro
      cases r with
      | cons r1 t =>
        cases t
        cases r1
        by_cases c : (b.length == 0) = false ∧ w.length + 2 ≤ sizeLine
        · rw [if_pos c] at h
          exact ⟨w, b, rfl, rfl, c.1, c.2, fun l hl => post_ok h (rv_lst_new rel hl (strs_bd _ _) (strs_rvs _)) bd_ref_new rv_ref_new⟩
        · rw [if_neg c] at h; exact h.elim
    · exact h.elim
  gd := fun o a s => by
    unfold vSplit
    split
    · split
      · exact Gd.push _ _
      · trivial
    · trivial
end
end Bi

end
section
set_option Elab.async false
set_option linter.all false
set_option autoImplicit false
set_option maxRecDepth 100000
set_option maxHeartbeats 1000000
/-! Bi10: garbage; statements. -/
namespace Bi
open PySem L2
/-! ### garbage -/
def gcV (n low : Nat) (v : PV) (s : Sg) : R PV :=
  if n ≤ s.low then
    if v.bd n then .ok v ⟨s.g.take n, low⟩
    else match v with
      | .ref m => (match s.g[m]? with
        | some o => if o.bd n then .ok (.ref n) ⟨s.g.take n ++ [o], low⟩ else .ok v ⟨s.g, low⟩
        | none => .bad)
      | _ => .ok v ⟨s.g, low⟩
  else .ok v ⟨s.g, min low s.low⟩
def gcR (n low : Nat) : R PV → R PV
  | .ok v s => gcV n low v s
  | .err C v s => if n ≤ s.low ∧ v.bd n = true then .err C v ⟨s.g.take n, low⟩ else .err C v ⟨s.g, min low s.low⟩
  | .bad => .bad
/-- the mark at the top -/
def Sg.top (s : Sg) : Sg := ⟨s.g, s.g.length⟩
def gcE (m : ME) : ME := fun φ p s => gcR s.g.length s.low (m φ p s.top)
section
variable {K : PySem.W.Frag} {mg : Str → Option Value} {H H' : Hp} {ρ ρ' : Nat → Addr} {s s' : Sg} {p : Sl} {σ : L2.St}
theorem Rel.low (h : Rel K mg ρ s H) (low : Nat) : Rel K mg ρ ⟨s.g, low⟩ H := ⟨h.cell, h.inj, h.wf⟩
theorem SRel.low (h : SRel K mg ρ s H p σ) (low : Nat) : SRel K mg ρ ⟨s.g, low⟩ H p σ := ⟨h.len, h.at_⟩
theorem gc_take (h : Rel K mg ρ s H) {n : Nat} (hn : n ≤ s.g.length) (hw : ∀ i o, i < n → s.g[i]? = some o → o.bd n = true) (low : Nat) : Rel K mg ρ ⟨s.g.take n, low⟩ H := by
  have hl : (s.g.take n).length = n := by rw [List.length_take]; omega
  have at_ : ∀ (i : Nat) (o : PO), (s.g.take n)[i]? = some o → i < n ∧ s.g[i]? = some o := fun i o e => by
    have hi : i < (s.g.take n).length := (List.getElem?_eq_some_iff.mp e).1
    rw [hl] at hi
    rw [List.getElem?_take_of_lt hi] at e
    exact ⟨hi, e⟩
  refine ⟨fun i o e => h.cell i o (at_ i o e).2, fun i j hi hj e => ?_, fun i o e => ?_⟩
  · have hi' : i < (s.g.take n).length := hi
    have hj' : j < (s.g.take n).length := hj
    rw [hl] at hi' hj'
    exact h.inj i j (by omega) (by omega) e
  · show o.bd (s.g.take n).length = true
    rw [hl]
    exact hw i o (at_ i o e).1 (at_ i o e).2
theorem gc_move (h : Rel K mg ρ s H) {n m : Nat} {o : PO} (hn : n ≤ m) (hm : s.g[m]? = some o) (hb : o.bd n = true) (hw : ∀ i o, i < n → s.g[i]? = some o → o.bd n = true) (low : Nat) : Rel K mg (rput ρ n (ρ m)) ⟨s.g.take n ++ [o], low⟩ H := by
  have hml : m < s.g.length := (List.getElem?_eq_some_iff.mp hm).1
  have hl : (s.g.take n).length = n := by rw [List.length_take]; omega
  have hl2 : (s.g.take n ++ [o]).length = n + 1 := by rw [List.length_append, hl]; rfl
  have ag : ∀ i, i < n → rput ρ n (ρ m) i = ρ i := fun i hi => rput_ne (by omega)
  have at_ : ∀ (i : Nat) (o' : PO), (s.g.take n ++ [o])[i]? = some o' → (i < n ∧ s.g[i]? = some o') ∨ (i = n ∧ o' = o) := fun i o' e => by
    by_cases hi : i < n
    · rw [List.getElem?_append_left (by omega), List.getElem?_take_of_lt hi] at e
      exact .inl ⟨hi, e⟩
    · have hi2 : i < (s.g.take n ++ [o]).length := (List.getElem?_eq_some_iff.mp e).1
      have hi3 : i = n := by omega
      subst hi3
      rw [List.getElem?_append_right (by omega), hl, Nat.sub_self] at e
      exact .inr ⟨rfl, (Option.some.inj e).symm⟩
  refine ⟨fun i o' e => ?_, fun i j hi hj e => ?_, fun i o' e => ?_⟩
  · rcases at_ i o' e with ⟨hi, e1⟩ | ⟨hi, rfl⟩
    · rw [ag i hi]
      exact CellRel.mono Keep.refl ag (hw i o' hi e1) (h.cell i o' e1) fun _ q => q
    · subst hi
      rw [rput_eq]
      exact CellRel.mono Keep.refl ag hb (h.cell m o' hm) fun _ q => q
  · have hi' : i < (s.g.take n ++ [o]).length := hi
    have hj' : j < (s.g.take n ++ [o]).length := hj
    rw [hl2] at hi' hj'
    by_cases h1 : i = n
    · by_cases h2 : j = n
      · omega
      · rw [h1, rput_eq, rput_ne h2] at e
        have := h.inj m j hml (by omega) e
        omega
    · by_cases h2 : j = n
      · rw [h2, rput_eq, rput_ne h1] at e
        have := h.inj i m (by omega) hml e
        omega
      · rw [rput_ne h1, rput_ne h2] at e
        exact h.inj i j (by omega) (by omega) e
  · show o'.bd (s.g.take n ++ [o]).length = true
    rw [hl2]
    rcases at_ i o' e with ⟨hi, e1⟩ | ⟨hi, rfl⟩
    · exact PO.bd_mono (Nat.le_succ _) (hw i o' hi e1)
    · exact PO.bd_mono (Nat.le_succ _) hb
/-- the old cells know nothing new -/
theorem gd_wf {low : Nat} (h : Rel K mg ρ s H) (d : Gd s.top s') (hl : s.g.length ≤ s'.low) : ∀ i o, i < s.g.length → s'.g[i]? = some o → o.bd s.g.length = true := fun i o hi e => by
  obtain ⟨o1, e1, f⟩ := d.old i hi (by omega) o e
  exact f _ (h.wf i o1 e1)
theorem fz_take {F : Nat → List (Key × PV) → Prop} {g : List PO} {n : Nat} (h : ∀ (m : Nat) (kvs : List (Key × PV)), g[m]? = some (.dic kvs true) → s'.g[m]? = some (.dic kvs true) ∧ F m kvs) (hn : g.length = n) (t : List PO) :
    ∀ (m : Nat) (kvs : List (Key × PV)), g[m]? = some (.dic kvs true) → (s'.g.take n ++ t)[m]? = some (.dic kvs true) ∧ F m kvs := fun m kvs e => by
  have hm : m < g.length := (List.getElem?_eq_some_iff.mp e).1
  obtain ⟨e1, f⟩ := h m kvs e
  have hm2 : m < s'.g.length := (List.getElem?_eq_some_iff.mp e1).1
  refine ⟨?_, f⟩
  rw [List.getElem?_append_left (by rw [List.length_take]; omega), List.getElem?_take_of_lt (by omega)]
  exact e1
/-- from the run to what is left of it -/
theorem post_gc {W : WX} {Q : V → Hp → Prop} {r : R PV} (rel : Rel K mg ρ s H) (d : GdR s.top r) (h : PostE K mg W ρ s H σ Q (gcR s.g.length s.low r)) : PostE K mg W ρ s.top H σ Q r := by
  cases r with
  | bad => exact h
  | ok v s1 =>
    intro ρ' H' u n r
    have d : Gd s.top s1 := d
    have hlen : s.g.length ≤ s1.g.length := d.len
    have h : PostE K mg W ρ s H σ Q (gcV s.g.length s.low v s1) := h
    unfold gcV at h
    by_cases hl : s.g.length ≤ s1.low
    · rw [if_pos hl] at h
      have hw := gd_wf (low := 0) rel d hl
      by_cases hb : v.bd s.g.length = true
      · rw [if_pos hb] at h
        refine h ρ' H' u ⟨gc_take n.rel hlen hw _, n.keep, n.agr, ?_, by
          have q := fz_take n.fz rfl []
          rw [List.append_nil] at q
          exact q⟩ ⟨?_, r.2⟩
        · show s.g.length ≤ (s1.g.take s.g.length).length
          rw [List.length_take]; omega
        · show v.bd (s1.g.take s.g.length).length = true
          rw [List.length_take, Nat.min_eq_left hlen]
          exact hb
      · rw [if_neg hb] at h
        have same : PostE K mg W ρ s H σ Q (.ok v ⟨s1.g, s.low⟩) → Q u H' := fun h => h ρ' H' u ⟨n.rel.low _, n.keep, n.agr, n.len, n.fz⟩ ⟨r.1, r.2⟩
        cases v with
        | ref m =>
          simp only at h
          cases e : s1.g[m]? with
          | none => rw [e] at h; exact h.elim
          | some o =>
            rw [e] at h
            simp only at h
            by_cases ho : o.bd s.g.length = true
            · rw [if_pos ho] at h
              have hm : s.g.length ≤ m := Nat.le_of_not_lt fun z => hb (by rw [PV.bd]; exact decide_eq_true z)
              have rr := r.2
              cases rr
              refine h (rput ρ' s.g.length (ρ' m)) H' (.ref (ρ' m)) ⟨gc_move n.rel hm e ho hw _, n.keep, fun i hi => ?_, ?_, fz_take n.fz rfl _⟩ ⟨?_, rv_ref_new⟩
              · have hi : i < s.g.length := hi
                rw [rput_ne (by omega)]
                exact n.agr i hi
              · show s.g.length ≤ (s1.g.take s.g.length ++ [o]).length
                rw [List.length_append, List.length_take]; omega
              · rw [PV.bd]
                refine decide_eq_true ?_
                show s.g.length < (s1.g.take s.g.length ++ [o]).length
                rw [List.length_append, List.length_take, Nat.min_eq_left hlen]
                exact Nat.lt_succ_self _
            · rw [if_neg ho] at h
              exact same h
        | _ => exact same h
    · rw [if_neg hl] at h
      exact h ρ' H' u ⟨n.rel.low _, n.keep, n.agr, n.len, n.fz⟩ ⟨r.1, r.2⟩
  | err C v s1 =>
    intro ρ' H' Ca dd u n e1 e2 hb r
    have d : Gd s.top s1 := d
    have hlen : s.g.length ≤ s1.g.length := d.len
    have h : PostE K mg W ρ s H σ Q (if s.g.length ≤ s1.low ∧ v.bd s.g.length = true then .err C v ⟨s1.g.take s.g.length, s.low⟩ else .err C v ⟨s1.g, min s.low s1.low⟩) := h
    by_cases hl : s.g.length ≤ s1.low ∧ v.bd s.g.length = true
    · rw [if_pos hl] at h
      have hw := gd_wf (low := 0) rel d hl.1
      refine h ρ' H' Ca dd u ⟨gc_take n.rel hlen hw _, n.keep, n.agr, ?_, by
          have q := fz_take n.fz rfl []
          rw [List.append_nil] at q
          exact q⟩ e1 e2 ?_ r
      · show s.g.length ≤ (s1.g.take s.g.length).length
        rw [List.length_take]; omega
      · show v.bd (s1.g.take s.g.length).length = true
        rw [List.length_take, Nat.min_eq_left hlen]
        exact hl.2
    · rw [if_neg hl] at h
      exact h ρ' H' Ca dd u ⟨n.rel.low _, n.keep, n.agr, n.len, n.fz⟩ e1 e2 hb r
theorem gd_take {s1 : Sg} (d : Gd s.top s1) (hl : s.g.length ≤ s1.low) (t : List PO) : Gd s ⟨s1.g.take s.g.length ++ t, s.low⟩ where
  len := by
    show s.g.length ≤ (s1.g.take s.g.length ++ t).length
    have : s.g.length ≤ s1.g.length := d.len
    rw [List.length_append, List.length_take]; omega
  low := Nat.le_refl _
  old := fun j h1 h2 o' e => by
    have hlen : s.g.length ≤ s1.g.length := d.len
    have e' : (s1.g.take s.g.length ++ t)[j]? = some o' := e
    rw [List.getElem?_append_left (by rw [List.length_take]; omega), List.getElem?_take_of_lt h1] at e'
    exact d.old j h1 (by omega) o' e'
theorem gd_same {s1 : Sg} (d : Gd s.top s1) (hl : s.g.length ≤ s1.low) : Gd s ⟨s1.g, s.low⟩ where
  len := d.len
  low := Nat.le_refl _
  old := fun j h1 h2 o' e => d.old j h1 (by omega) o' e
theorem gd_min {s1 : Sg} (d : Gd s.top s1) : Gd s ⟨s1.g, min s.low s1.low⟩ where
  len := d.len
  low := Nat.min_le_left _ _
  old := fun j h1 h2 o' e => by
    have h2 : j < min s.low s1.low := h2
    exact d.old j h1 (by omega) o' e
theorem gdR_gc {r : R PV} (d : GdR s.top r) : GdR s (gcR s.g.length s.low r) := by
  cases r with
  | bad => trivial
  | ok v s1 =>
    have d : Gd s.top s1 := d
    show GdR s (gcV s.g.length s.low v s1)
    unfold gcV
    split
    · rename_i hl
      split
      · have := gd_take d hl []
        rw [List.append_nil] at this
        exact this
      · split
        · split
          · split
            · exact gd_take d hl _
            · exact gd_same d hl
          · trivial
        · exact gd_same d hl
    · exact gd_min d
  | err C v s1 =>
    have d : Gd s.top s1 := d
    show GdR s (if s.g.length ≤ s1.low ∧ v.bd s.g.length = true then .err C v ⟨s1.g.take s.g.length, s.low⟩ else .err C v ⟨s1.g, min s.low s1.low⟩)
    split
    · rename_i hl
      have := gd_take d hl.1 []
      rw [List.append_nil] at this
      exact this
    · exact gd_min d
/-- a bool is a bool -/
theorem isB_gc {n low : Nat} {r : R PV} (h : isB (gcR n low r)) (hn : gcR n low r ≠ .bad) : isB r := by
  cases r with
  | bad => trivial
  | err C v s1 => trivial
  | ok v s1 =>
    have h : isB (gcV n low v s1) := h
    have hn : gcV n low v s1 ≠ .bad := hn
    unfold gcV at h hn
    by_cases hl : n ≤ s1.low
    · rw [if_pos hl] at h hn
      by_cases hb : v.bd n = true
      · rw [if_pos hb] at h
        exact h
      · rw [if_neg hb] at h hn
        cases v with
        | ref m =>
          simp only at h hn
          cases e : s1.g[m]? with
          | none => rw [e] at hn; exact absurd rfl hn
          | some o =>
            rw [e] at h
            simp only at h
            split at h
            · obtain ⟨b, e⟩ := h; cases e
            · obtain ⟨b, e⟩ := h; cases e
        | _ => exact h
    · rw [if_neg hl] at h
      exact h
end
section
variable {X : Cx} {W : WX} {φ : Phi} {m ma mb mc : ME} {e a b c o : Expr} {pos : Pos} {x : Str}
theorem sim_gc (h : Sim X W φ m e) : Sim X W φ (gcE m) e := by
  refine ⟨PE.imp h.pe fun σ H Q q => ?_, PT.imp h.pt fun σ H Q q => ?_, fun p s => gdR_gc (h.gd p s.top)⟩
  · obtain ⟨ρ, p, s, rel, sr, q⟩ := q
    exact ⟨ρ, p, s.top, rel.low _, sr.low _, post_gc rel (h.gd p s.top) q⟩
  · obtain ⟨ρ, p, s, rel, sr, hb, q⟩ := q
    have nb : gcE m φ p s ≠ .bad := post_nobad q
    have hb' := isB_gc hb nb
    refine ⟨ρ, p, s.top, rel.low _, sr.low _, hb', ?_⟩
    have d := h.gd p s.top
    show Post X.K X.mg RRn W ρ s.top H σ Q (m φ p s.top)
    have q : Post X.K X.mg RRn W ρ s H σ Q (gcR s.g.length s.low (m φ p s.top)) := q
    cases e1 : m φ p s.top with
    | bad => rw [e1] at q; exact q
    | ok v s1 =>
      rw [e1] at q hb' d
      obtain ⟨k, rfl⟩ := hb'
      intro ρ' H' u n r
      have r : PV.bl k = .bl u := r
      cases r
      have z : PostE X.K X.mg W ρ s H σ (fun v H' => v = .bl k ∧ Q k H') (gcR s.g.length s.low (.ok (.bl k) s1)) := by
        have e2 : gcR s.g.length s.low (.ok (.bl k) s1) = (if s.g.length ≤ s1.low then .ok (.bl k) ⟨s1.g.take s.g.length, s.low⟩ else .ok (.bl k) ⟨s1.g, min s.low s1.low⟩) := by
          show gcV _ _ _ _ = _
          unfold gcV
          have : (PV.bl k).bd s.g.length = true := by rw [PV.bd]
          rw [if_pos this]
        rw [e2] at q ⊢
        split at q
        · rename_i hl
          rw [if_pos hl]
          intro ρ2 H2 u n2 r2
          obtain ⟨_, r2⟩ := r2
          cases r2
          exact ⟨rfl, q ρ2 H2 k n2 rfl⟩
        · rename_i hl
          rw [if_neg hl]
          intro ρ2 H2 u n2 r2
          obtain ⟨_, r2⟩ := r2
          cases r2
          exact ⟨rfl, q ρ2 H2 k n2 rfl⟩
      have z2 := post_gc rel d z
      exact (z2 ρ' H' (.bl k) n ⟨by rw [PV.bd], .bl k⟩).2
    | err C v s1 =>
      rw [e1] at q d
      have z : PostE X.K X.mg W ρ s H σ (fun _ _ => True) (gcR s.g.length s.low (.err C v s1)) := by
        have e2 : gcR s.g.length s.low (.err C v s1) = (if s.g.length ≤ s1.low ∧ v.bd s.g.length = true then .err C v ⟨s1.g.take s.g.length, s.low⟩ else .err C v ⟨s1.g, min s.low s1.low⟩) := rfl
        rw [e2] at q ⊢
        split at q
        · rename_i hl
          rw [if_pos hl]
          exact q
        · rename_i hl
          rw [if_neg hl]
          exact q
      exact post_gc rel d z
end
end Bi

end
section
set_option Elab.async false
set_option linter.all false
set_option autoImplicit false
set_option maxRecDepth 100000
set_option maxHeartbeats 1000000
/-! Bi11: statements without loops. -/
namespace Bi
open PySem L2
inductive RS where
  | nx (p : Sl) (s : Sg) | rt (v : PV) (s : Sg) | bk (p : Sl) (s : Sg) | ct (p : Sl) (s : Sg) | er (C : Str) (v : PV) (p : Sl) (s : Sg) | bad
abbrev MS := Phi → Sl → Sg → RS
def R.toS {α : Type} (p : Sl) (f : α → Sg → RS) : R α → RS
  | .ok v s => f v s
  | .err C v s => .er C v p s
  | .bad => .bad
@[simp] theorem toS_ok {α : Type} (p : Sl) (f : α → Sg → RS) (v : α) (s : Sg) : (R.ok v s).toS p f = f v s := (rfl)
@[simp] theorem toS_err {α : Type} (p : Sl) (f : α → Sg → RS) (C : Str) (v : PV) (s : Sg) : (R.err C v s : R α).toS p f = .er C v p s := (rfl)
@[simp] theorem toS_bad {α : Type} (p : Sl) (f : α → Sg → RS) : (R.bad : R α).toS p f = .bad := (rfl)
def onS (f : Bool → Sg → RS) : PV → Sg → RS
  | .bl b, s => f b s
  | _, _ => .bad
def GdS (s : Sg) : RS → Prop
  | .nx _ s' => Gd s s'
  | .rt _ s' => Gd s s'
  | .bk _ s' => Gd s s'
  | .ct _ s' => Gd s s'
  | .er _ _ _ s' => Gd s s'
  | .bad => True
theorem GdS.trans {s s' : Sg} {r : RS} (h : Gd s s') (k : GdS s' r) : GdS s r := by
  cases r with
  | bad => trivial
  | nx p s2 => exact Gd.trans h k
  | rt p s2 => exact Gd.trans h k
  | bk p s2 => exact Gd.trans h k
  | ct p s2 => exact Gd.trans h k
  | er C v p s2 => exact Gd.trans h k
theorem GdS.of {α : Type} {s : Sg} {p : Sl} {r : R α} {f : α → Sg → RS} (h : GdR s r) (k : ∀ v s', r = .ok v s' → GdS s' (f v s')) : GdS s (r.toS p f) := by
  cases r with
  | ok v s' => exact GdS.trans h (k v s' rfl)
  | err C v s' => exact h
  | bad => trivial
section
variable (K : PySem.W.Frag) (mg : Str → Option Value)
def PostS (W : WX) (D : Ends) (ρ : Nat → Addr) (s : Sg) (H : Hp) : RS → Prop
  | .nx p s' => ∀ ρ' H' σ', Nx K mg ρ s H ρ' s' H' → SRel K mg ρ' s' H' p σ' → D.nx σ' H'
  | .rt v s' => ∀ ρ' H' u, Nx K mg ρ s H ρ' s' H' → v.bd s'.g.length = true → RV K mg H' ρ' v u → D.rt u H'
  | .bk p s' => ∀ ρ' H' σ', Nx K mg ρ s H ρ' s' H' → SRel K mg ρ' s' H' p σ' → D.bk σ' H'
  | .ct p s' => ∀ ρ' H' σ', Nx K mg ρ s H ρ' s' H' → SRel K mg ρ' s' H' p σ' → D.ct σ' H'
  | .er C v p s' => ∀ ρ' H' σ' Ca dd u, Nx K mg ρ s H ρ' s' H' → SRel K mg ρ' s' H' p σ' → mg C = some (.ref Ca) → H' dd = some (.xd [(("value" : Str), u)]) → v.bd s'.g.length = true → RV K mg H' ρ' v u → W (.ref Ca) (some dd) σ' H'
  | .bad => False
def tS (W : WX) (φ : Phi) (m : MS) : TS := fun D σ H => ∃ ρ p s, Rel K mg ρ s H ∧ SRel K mg ρ s H p σ ∧ PostS K mg W D ρ s H (m φ p s)
end
structure SimS (X : Cx) (W : WX) (φ : Phi) (m : MS) (st : Stmt) : Prop where
  ps : PS X st (tS X.K X.mg W φ m)
  gd : ∀ p s, GdS s (m φ p s)
structure SimSs (X : Cx) (W : WX) (φ : Phi) (m : MS) (st : List Stmt) : Prop where
  pss : PSs X st (tS X.K X.mg W φ m)
  gd : ∀ p s, GdS s (m φ p s)
theorem PSs.imp {X : Cx} {e : List Stmt} {t t' : TS} (h : PSs X e t) (k : ∀ D σ H, t' D σ H → t D σ H) : PSs X e t' := ⟨fun pins s σ H D I q => h.run pins s σ H D I (k D σ H q)⟩
section
variable {K : PySem.W.Frag} {mg : Str → Option Value} {H H' H1 H2 : Hp} {ρ ρ' ρ1 ρ2 : Nat → Addr} {s s' s1 s2 : Sg} {p : Sl} {σ : L2.St} {W : WX} {φ : Phi} {D D' : Ends}
theorem PostS.step {r : RS} (h : PostS K mg W D ρ s H r) (n : Nx K mg ρ s H ρ1 s1 H1) : PostS K mg W D ρ1 s1 H1 r := by
  cases r with
  | nx p s' => exact fun ρ' H' u n' => h ρ' H' u (n.trans n')
  | rt v s' => exact fun ρ' H' u n' => h ρ' H' u (n.trans n')
  | bk p s' => exact fun ρ' H' u n' => h ρ' H' u (n.trans n')
  | ct p s' => exact fun ρ' H' u n' => h ρ' H' u (n.trans n')
  | er C v p s' => exact fun ρ' H' σ' Ca dd u n' => h ρ' H' σ' Ca dd u (n.trans n')
  | bad => exact h
theorem PostS.nobad {r : RS} (h : PostS K mg W D ρ s H r) : r ≠ .bad := fun e => by rw [e] at h; exact h
/-- other ends -/
theorem PostS.mono {r : RS} (h : PostS K mg W D ρ s H r) (k1 : ∀ p s' , r = .nx p s' → ∀ ρ' H' σ', Nx K mg ρ s H ρ' s' H' → SRel K mg ρ' s' H' p σ' → D.nx σ' H' → D'.nx σ' H') (k2 : ∀ u H', D.rt u H' → D'.rt u H') (k3 : ∀ u H', D.bk u H' → D'.bk u H')
    (k4 : ∀ p s', r = .ct p s' → ∀ ρ' H' σ', Nx K mg ρ s H ρ' s' H' → SRel K mg ρ' s' H' p σ' → D.ct σ' H' → D'.ct σ' H') : PostS K mg W D' ρ s H r := by
  cases r with
  | nx p s' => exact fun ρ' H' u n' r' => k1 p s' rfl ρ' H' u n' r' (h ρ' H' u n' r')
  | rt v s' => exact fun ρ' H' u n' b r' => k2 _ _ (h ρ' H' u n' b r')
  | bk p s' => exact fun ρ' H' u n' r' => k3 _ _ (h ρ' H' u n' r')
  | ct p s' => exact fun ρ' H' u n' r' => k4 p s' rfl ρ' H' u n' r' (h ρ' H' u n' r')
  | er C v p s' => exact h
  | bad => exact h
theorem tES {m : ME} {f : PV → Sg → RS} {Q' : VK} (rel : Rel K mg ρ s H) (sr : SRel K mg ρ s H p σ) (h : PostS K mg W D ρ s H ((m φ p s).toS p f))
    (k : ∀ v s1 ρ1 H1 u, m φ p s = .ok v s1 → Nx K mg ρ s H ρ1 s1 H1 → v.bd s1.g.length = true → RV K mg H1 ρ1 v u → SRel K mg ρ1 s1 H1 p σ → PostS K mg W D ρ1 s1 H1 (f v s1) → Q' u H1) : tE K mg W φ m σ H Q' := by
  refine ⟨ρ, p, s, rel, sr, ?_⟩
  cases e : m φ p s with
  | ok v s1 =>
    rw [e] at h
    exact fun ρ1 H1 u n r => k v s1 ρ1 H1 u e n r.1 r.2 (sr.mono n) (PostS.step h n)
  | err C v s1 =>
    rw [e] at h
    exact fun ρ' H' Ca dd u n e1 e2 e3 e4 => h ρ' H' σ Ca dd u n (sr.mono n) e1 e2 e3 e4
  | bad => rw [e] at h; exact h
theorem tAS {m : ML} {f : List PV → Sg → RS} {Q' : List V → Hp → Prop} (rel : Rel K mg ρ s H) (sr : SRel K mg ρ s H p σ) (h : PostS K mg W D ρ s H ((m φ p s).toS p f))
    (k : ∀ v s1 ρ1 H1 u, m φ p s = .ok v s1 → Nx K mg ρ s H ρ1 s1 H1 → v.all (PV.bd s1.g.length) = true → RVs K mg H1 ρ1 v u → SRel K mg ρ1 s1 H1 p σ → PostS K mg W D ρ1 s1 H1 (f v s1) → Q' u H1) : tA K mg W φ m σ H Q' := by
  refine ⟨ρ, p, s, rel, sr, ?_⟩
  cases e : m φ p s with
  | ok v s1 =>
    rw [e] at h
    exact fun ρ1 H1 u n r => k v s1 ρ1 H1 u e n r.1 r.2 (sr.mono n) (PostS.step h n)
  | err C v s1 =>
    rw [e] at h
    exact fun ρ' H' Ca dd u n e1 e2 e3 e4 => h ρ' H' σ Ca dd u n (sr.mono n) e1 e2 e3 e4
  | bad => rw [e] at h; exact h
theorem tTS {m : ME} {f : Bool → Sg → RS} {Q' : Bool → Hp → Prop} (rel : Rel K mg ρ s H) (sr : SRel K mg ρ s H p σ) (h : PostS K mg W D ρ s H ((m φ p s).toS p (onS f)))
    (k : ∀ b s1 ρ1 H1, m φ p s = .ok (.bl b) s1 → Nx K mg ρ s H ρ1 s1 H1 → SRel K mg ρ1 s1 H1 p σ → PostS K mg W D ρ1 s1 H1 (f b s1) → Q' b H1) : tT K mg W φ m σ H Q' := by
  refine ⟨ρ, p, s, rel, sr, ?_⟩
  cases e : m φ p s with
  | ok v s1 =>
    rw [e] at h
    have h : PostS K mg W D ρ s H (onS f v s1) := h
    cases v with
    | bl b =>
      refine ⟨⟨b, rfl⟩, fun ρ1 H1 u n r => ?_⟩
      have eb : b = u := by injection r
      subst eb
      exact k b s1 ρ1 H1 e n (sr.mono n) (PostS.step h n)
    | _ => exact h.elim
  | err C v s1 =>
    rw [e] at h
    exact ⟨trivial, fun ρ' H' Ca dd u n e1 e2 e3 e4 => h ρ' H' σ Ca dd u n (sr.mono n) e1 e2 e3 e4⟩
  | bad => rw [e] at h; exact h.elim
theorem SRel.set (h : SRel K mg ρ s H p σ) {i : Nat} {v : PV} {u : V} (b : v.bd s.g.length = true) (r : RV K mg H ρ v u) : SRel K mg ρ s H (p.set i (some v)) (σ.set i (some u)) := by
  refine ⟨by rw [List.length_set, List.length_set]; exact h.len, fun j pv e => ?_⟩
  by_cases hj : j = i
  · subst hj
    have hl : j < p.length := by
      have := (List.getElem?_eq_some_iff.mp e).1
      rw [List.length_set] at this
      exact this
    rw [List.getElem?_set_self hl] at e
    cases e
    refine ⟨b, u, ?_, r⟩
    rw [List.getElem?_set_self (by rw [← h.len]; exact hl)]
  · rw [List.getElem?_set_ne (Ne.symm hj)] at e
    obtain ⟨b1, v1, e1, r1⟩ := h.at_ j pv e
    exact ⟨b1, v1, by rw [List.getElem?_set_ne (Ne.symm hj)]; exact e1, r1⟩
end
section
variable {X : Cx} {W : WX} {φ : Phi} {m ma mb mc : ME} {e a b c o : Expr} {pos : Pos} {x : Str} {st : Stmt} {sts : List Stmt}
def mNx : MS := fun _ p s => .nx p s
def mSeq (a b : MS) : MS := fun φ p s => match a φ p s with
  | .nx p' s' => b φ p' s'
  | r => r
theorem simss_nil : SimSs X W φ mNx [] := ⟨PSs.imp pss_nil fun D σ H h => by
  obtain ⟨ρ, p, s, rel, sr, h⟩ := h
  exact h ρ H σ (Nx.refl rel) sr, fun p s => Gd.refl s⟩
theorem mSeq_gd {a b : MS} (h1 : ∀ p s, GdS s (a φ p s)) (h2 : ∀ p s, GdS s (b φ p s)) (p : Sl) (s : Sg) : GdS s (mSeq a b φ p s) := by
  have q := h1 p s
  unfold mSeq
  cases e : a φ p s with
  | nx p' s' => rw [e] at q; exact GdS.trans q (h2 p' s')
  | _ => rw [e] at q; exact q
theorem simss_cons {m1 m2 : MS} (h1 : SimS X W φ m1 st) (h2 : SimSs X W φ m2 sts) : SimSs X W φ (mSeq m1 m2) (st :: sts) := by
  refine ⟨PSs.imp (pss_cons h1.ps h2.pss) fun D σ H h => ?_, mSeq_gd h1.gd h2.gd⟩
  obtain ⟨ρ, p, s, rel, sr, h⟩ := h
  refine ⟨ρ, p, s, rel, sr, ?_⟩
  have h : PostS X.K X.mg W D ρ s H (mSeq m1 m2 φ p s) := h
  unfold mSeq at h
  cases e : m1 φ p s with
  | nx p' s' =>
    rw [e] at h
    exact fun ρ' H' σ' n sr' => ⟨ρ', p', s', n.rel, sr', PostS.step h n⟩
  | rt v s' => rw [e] at h; exact h
  | bk p' s' => rw [e] at h; exact h
  | ct p' s' => rw [e] at h; exact h
  | er C v p' s' => rw [e] at h; exact h
  | bad => rw [e] at h; exact h
theorem simss_one {m1 : MS} (h1 : SimS X W φ m1 st) : SimSs X W φ m1 [st] := ⟨pss_one h1.ps, h1.gd⟩
def mBk : MS := fun _ p s => .bk p s
def mCt : MS := fun _ p s => .ct p s
theorem sims_pass : SimS X W φ mNx (.Pass pos) := ⟨PS.imp ps_pass fun D σ H h => by
  obtain ⟨ρ, p, s, rel, sr, h⟩ := h
  exact h ρ H σ (Nx.refl rel) sr, fun p s => Gd.refl s⟩
theorem sims_doc {z : Str} {j : Nat} {p1 : Pos} (h : PS X (.Expr (.Constant (.str z) j p1) pos) tNext) : SimS X W φ mNx (.Expr (.Constant (.str z) j p1) pos) := ⟨PS.imp h fun D σ H h => by
  obtain ⟨ρ, p, s, rel, sr, h⟩ := h
  exact h ρ H σ (Nx.refl rel) sr, fun p s => Gd.refl s⟩
theorem sims_break : SimS X W φ mBk (.Break pos) := ⟨PS.imp ps_break fun D σ H h => by
  obtain ⟨ρ, p, s, rel, sr, h⟩ := h
  exact h ρ H σ (Nx.refl rel) sr, fun p s => Gd.refl s⟩
theorem sims_continue : SimS X W φ mCt (.Continue pos) := ⟨PS.imp ps_continue fun D σ H h => by
  obtain ⟨ρ, p, s, rel, sr, h⟩ := h
  exact h ρ H σ (Nx.refl rel) sr, fun p s => Gd.refl s⟩
def mExp (m : ME) : MS := fun φ p s => (m φ p s).toS p fun _ s => .nx p s
theorem sims_expr (h : Sim X W φ m e) (hs : swapsWith e none pos.line X.env = pure false) : SimS X W φ (mExp m) (.Expr e pos) :=
  ⟨PS.imp (ps_expr h.pe hs) fun D σ H q => by
    obtain ⟨ρ, p, s, rel, sr, q⟩ := q
    exact tES rel sr q fun v s1 ρ1 H1 u e1 n1 b1 r1 sr1 h1 => h1 ρ1 H1 σ (Nx.refl n1.rel) sr1, fun p s => GdS.of (h.gd p s) fun v s' _ => Gd.refl s'⟩
def mRet (m : ME) : MS := fun φ p s => (m φ p s).toS p fun v s => .rt v s
theorem sims_ret (h : Sim X W φ m e) : SimS X W φ (mRet m) (.Return (some e) pos) :=
  ⟨PS.imp (ps_ret h.pe) fun D σ H q => by
    obtain ⟨ρ, p, s, rel, sr, q⟩ := q
    exact tES rel sr q fun v s1 ρ1 H1 u e1 n1 b1 r1 sr1 h1 => h1 ρ1 H1 u (Nx.refl n1.rel) b1 r1, fun p s => GdS.of (h.gd p s) fun v s' _ => Gd.refl s'⟩
def mRetN : MS := fun _ _ s => .rt .non s
theorem sims_retN : SimS X W φ mRetN (.Return none pos) :=
  ⟨PS.imp ps_retN fun D σ H q => by
    obtain ⟨ρ, p, s, rel, sr, q⟩ := q
    exact q ρ H .non (Nx.refl rel) bd_non .non, fun p s => Gd.refl s⟩
def mSet (i : Nat) (m : ME) : MS := fun φ p s => (m φ p s).toS p fun v s => .nx (p.set i (some v)) s
theorem sims_set {i : Nat} {p1 : Pos} (hN : X.N.Nodup) (hi : X.N[i]? = some x) (hx : Loc X.env.scope x) (h : Sim X W φ m e) (hs : swapsWith e (some (.Name x p1)) pos.line X.env = pure false) (hf : X.fn x = true ∨ X.env.scope.names.lookup x = some .local) : SimS X W φ (mSet i m) (.Assign [.Name x p1] e pos) :=
  ⟨PS.imp (ps_set hN hi hx h.pe hs hf) fun D σ H q => by
    obtain ⟨ρ, p, s, rel, sr, q⟩ := q
    exact tES rel sr q fun v s1 ρ1 H1 u e1 n1 b1 r1 sr1 h1 => h1 ρ1 H1 _ (Nx.refl n1.rel) (sr1.set b1 r1), fun p s => GdS.of (h.gd p s) fun v s' _ => Gd.refl s'⟩
def mIfS (c : ME) (a b : MS) : MS := fun φ p s => (c φ p s).toS p (onS fun t s => match t with | true => a φ p s | false => b φ p s)
theorem sims_if {m1 m2 : MS} {as bs : List Stmt} (hc : Sim X W φ mc c) (ha : SimSs X W φ m1 as) (hb : SimSs X W φ m2 bs) : SimS X W φ (mIfS mc m1 m2) (.If c as bs pos) := by
  refine ⟨PS.imp (ps_if hc.pt ha.pss hb.pss) fun D σ H q => ?_, fun p s => GdS.of (hc.gd p s) fun v s' _ => ?_⟩
  · obtain ⟨ρ, p, s, rel, sr, q⟩ := q
    refine tTS rel sr q fun t s1 ρ1 H1 e1 n1 sr1 h1 => ?_
    cases t with
    | true => exact iteT (⟨ρ1, p, s1, n1.rel, sr1, h1⟩)
    | false => exact iteF (⟨ρ1, p, s1, n1.rel, sr1, h1⟩)
  · cases v with
    | bl k => cases k with
      | true => exact ha.gd p s'
      | false => exact hb.gd p s'
    | _ => trivial
/-! ### targets: names, tuples of targets -/
/-- what a target does to the slots; is: which it may set -/
structure SimG (X : Cx) (g : TG) (f : PV → Sl → Option Sl) (is : List Nat) (tg : Expr) : Prop where
  pg : PG X tg g
  run : ∀ (ρ : Nat → Addr) (s : Sg) (H : Hp) (p p' : Sl) (σ : L2.St) (y : PV) (u : V) (Q : L2.St → Hp → Prop), Rel X.K X.mg ρ s H → SRel X.K X.mg ρ s H p σ → y.bd s.g.length = true → RV X.K X.mg H ρ y u → f y p = some p' →
    (∀ σ', SRel X.K X.mg ρ s H p' σ' → (∀ vs : List Nat, (∀ i ∈ is, i ∈ vs) → wipe σ' vs = wipe σ vs) → Q σ' H) → g u σ H Q
structure SimGs (X : Cx) (g : TGs) (f : List PV → Sl → Option Sl) (is : List Nat) (tg : List Expr) : Prop where
  pg : PGs X tg g
  run : ∀ (ρ : Nat → Addr) (s : Sg) (H : Hp) (p p' : Sl) (σ : L2.St) (y : List PV) (u : List V) (Q : L2.St → Hp → Prop), Rel X.K X.mg ρ s H → SRel X.K X.mg ρ s H p σ → y.all (PV.bd s.g.length) = true → RVs X.K X.mg H ρ y u → f y p = some p' →
    (∀ σ', SRel X.K X.mg ρ s H p' σ' → (∀ vs : List Nat, (∀ i ∈ is, i ∈ vs) → wipe σ' vs = wipe σ vs) → Q σ' H) → g u σ H Q
theorem wipe_at {σ : L2.St} {vs : List Nat} {j : Nat} (h : j ∈ vs) (hj : j < σ.length) : (wipe σ vs)[j]? = some none := by
  have hl : j < (wipe σ vs).length := by rw [wipe_length]; exact hj
  cases e : (wipe σ vs)[j]? with
  | none => exact absurd (List.getElem?_eq_none_iff.mp e) (by omega)
  | some o =>
    cases o with
    | none => rfl
    | some v => exact absurd h (wipe_some e).2
theorem wipe_set_in {σ : L2.St} {vs : List Nat} {i : Nat} {x : Option V} (h : i ∈ vs) : wipe (σ.set i x) vs = wipe σ vs := by
  refine List.ext_getElem? fun j => ?_
  by_cases hj : j ∈ vs
  · by_cases hl : j < σ.length
    · rw [wipe_at hj hl, wipe_at hj (by rw [List.length_set]; exact hl)]
    · rw [List.getElem?_eq_none_iff.mpr (by rw [wipe_length, List.length_set]; omega), List.getElem?_eq_none_iff.mpr (by rw [wipe_length]; omega)]
  · rw [wipe_out hj, wipe_out hj, List.getElem?_set_ne (fun e : i = j => hj (by rw [← e]; exact h))]
def gN (i : Nat) : PV → Sl → Option Sl := fun y p => some (p.set i (some y))
theorem simg_name {i : Nat} {p1 : Pos} (hN : X.N.Nodup) (hi : X.N[i]? = some x) (hx : Loc X.env.scope x) (hf : X.fn x = true ∨ X.env.scope.names.lookup x = some .local) : SimG X (gName i) (gN i) [i] (.Name x p1) where
  pg := pg_name hN hi hx hf
  run := fun ρ s H p p' σ y u Q rel sr b r e h => by
    cases e
    exact h _ (sr.set b r) fun vs hv => wipe_set_in (hv i (List.mem_cons_self ..))
def gsN : List PV → Sl → Option Sl := fun ys p => match ys with | [] => some p | _ => none
def gsC (f : PV → Sl → Option Sl) (fs : List PV → Sl → Option Sl) : List PV → Sl → Option Sl := fun ys p => match ys with | y :: r => (match f y p with | some p1 => fs r p1 | none => none) | [] => none
theorem simgs_nil : SimGs X gNil gsN [] [] where
  pg := pgs_nil
  run := fun ρ s H p p' σ y u Q rel sr b r e h => by
    cases r with
    | nil =>
      have e : some p = some p' := e
      cases e
      exact ⟨rfl, h σ sr fun vs _ => rfl⟩
    | cons _ _ => cases e
theorem simgs_cons {g : TG} {gs : TGs} {f : PV → Sl → Option Sl} {fs : List PV → Sl → Option Sl} {is js : List Nat} {es : List Expr} (h1 : SimG X g f is e) (h2 : SimGs X gs fs js es) (hs : (assignEach (e :: es) X.env).map (·.2) = assign e X.env :: (assignEach es X.env).map (·.2)) : SimGs X (gCons g gs) (gsC f fs) (is ++ js) (e :: es) where
  pg := pgs_cons h1.pg h2.pg hs
  run := fun ρ s H p p' σ y u Q rel sr b r e h => by
    cases r with
    | nil => cases e
    | @cons y1 u1 ys us r1 rs =>
      rw [List.all_cons, Bool.and_eq_true] at b
      have e : (match f y1 p with | some p1 => fs ys p1 | none => none) = some p' := e
      cases e1 : f y1 p with
      | none => rw [e1] at e; cases e
      | some p1 =>
        rw [e1] at e
        refine ⟨u1, us, rfl, h1.run ρ s H p p1 σ y1 u1 _ rel sr b.1 r1 e1 fun σ1 sr1 w1 => ?_⟩
        refine h2.run ρ s H p1 p' σ1 ys us Q rel sr1 b.2 rs e fun σ2 sr2 w2 => h σ2 sr2 fun vs hv => ?_
        exact (w2 vs fun i hi => hv i (List.mem_append_right _ hi)).trans (w1 vs fun i hi => hv i (List.mem_append_left _ hi))
def gT (n : Nat) (fs : List PV → Sl → Option Sl) : PV → Sl → Option Sl := fun y p => match y with | .tup ys => if ys.length = n then fs ys p else none | _ => none
theorem simg_tup {gs : TGs} {fs : List PV → Sl → Option Sl} {is : List Nat} {es : List Expr} {k n : Nat} (hc : X.calm = true) (h : SimGs X gs fs is es) (hn : (assignEach es X.env).length = n) (hst : (assignEach es X.env).findIdx? (·.1) = none) : SimG X (gTup X.K n gs) (gT n fs) is (.Tuple es k pos) where
  pg := pg_tup hc h.pg hn hst
  run := fun ρ s H p p' σ y u Q rel sr b r e hq => by
    cases y with
    | tup ys =>
      obtain ⟨a, vs, rfl, q, rs⟩ := RV.tup_iff.mp r
      rw [bd_tup] at b
      have e : (if ys.length = n then fs ys p else none) = some p' := e
      by_cases hl : ys.length = n
      · rw [if_pos hl] at e
        exact ⟨a, vs, rfl, q, by rw [← rs.length]; exact hl, h.run ρ s H p p' σ ys vs Q rel sr b rs e hq⟩
      · rw [if_neg hl] at e; cases e
    | _ => cases e
def mAsg (m : ME) (f : PV → Sl → Option Sl) : MS := fun φ p s => (m φ p s).toS p fun v s => match f v p with | some p' => .nx p' s | none => .bad
theorem sims_asg {tg : Expr} {g : TG} {f : PV → Sl → Option Sl} {is : List Nat} (h : Sim X W φ m e) (hg : SimG X g f is tg) (hs : swapsWithSole [tg] e pos.line X.env = pure false) (hw : swappedStores [tg] e X.env = pure none) (h1 : (assignEach [tg] X.env).map (·.2) = [assign tg X.env]) : SimS X W φ (mAsg m f) (.Assign [tg] e pos) := by
  refine ⟨PS.imp (ps_asg h.pe hg.pg hs hw h1) fun D σ H q => ?_, fun p s => GdS.of (h.gd p s) fun v s' _ => ?_⟩
  · obtain ⟨ρ, p, s, rel, sr, q⟩ := q
    refine tES rel sr q fun v s1 ρ1 H1 u e1 n1 b1 r1 sr1 h1 => ?_
    cases e2 : f v p with
    | none => rw [e2] at h1; exact h1.elim
    | some p' =>
      rw [e2] at h1
      exact hg.run ρ1 s1 H1 p p' σ v u _ n1.rel sr1 b1 r1 e2 fun σ' sr' _ => h1 ρ1 H1 σ' (Nx.refl n1.rel) sr'
  · split
    · exact Gd.refl _
    · trivial
/-! a list of that length, too -/
def gLs (n : Nat) (fs : List PV → Sl → Option Sl) (s : Sg) : PV → Sl → Option Sl := fun y p => match lstOf y s with | some ys => if ys.length = n then fs ys p else none | _ => none
def mAsgL (m : ME) (n : Nat) (fs : List PV → Sl → Option Sl) : MS := fun φ p s => (m φ p s).toS p fun v s => match gLs n fs s v p with | some p' => .nx p' s | none => .bad
theorem sims_asgL {gs : TGs} {fs : List PV → Sl → Option Sl} {is : List Nat} {es : List Expr} {k n : Nat} {p1 : Pos} (hc : X.calm = true) (h : Sim X W φ m e) (hg : SimGs X gs fs is es) (hn : (assignEach es X.env).length = n) (hst : (assignEach es X.env).findIdx? (·.1) = none)
    (hs : swapsWithSole [.Tuple es k p1] e pos.line X.env = pure false) (hw : swappedStores [.Tuple es k p1] e X.env = pure none) (h1 : (assignEach [.Tuple es k p1] X.env).map (·.2) = [assign (.Tuple es k p1) X.env]) : SimS X W φ (mAsgL m n fs) (.Assign [.Tuple es k p1] e pos) := by
  refine ⟨PS.imp (ps_asg h.pe (pg_lst hc hg.pg hn hst) hs hw h1) fun D σ H q => ?_, fun p s => GdS.of (h.gd p s) fun v s' _ => ?_⟩
  · obtain ⟨ρ, p, s, rel, sr, q⟩ := q
    refine tES rel sr q fun v s1 ρ1 H1 u e1 n1 b1 r1 sr1 h1 => ?_
    unfold gLs at h1
    cases e2 : lstOf v s1 with
    | none => rw [e2] at h1; exact h1.elim
    | some ys =>
      rw [e2] at h1
      simp only at h1
      obtain ⟨a, us, rfl, q2, rs, hb⟩ := lstOf_rv n1.rel b1 e2 r1
      by_cases hl : ys.length = n
      · rw [if_pos hl] at h1
        cases e3 : fs ys p with
        | none => rw [e3] at h1; exact h1.elim
        | some p' =>
          rw [e3] at h1
          exact ⟨a, us, rfl, q2, by rw [← rs.length]; exact hl, hg.run ρ1 s1 H1 p p' σ ys us _ n1.rel sr1 hb rs e3 fun σ' sr' _ => h1 ρ1 H1 σ' (Nx.refl n1.rel) sr'⟩
      · rw [if_neg hl] at h1
        exact h1.elim
  · split
    · exact Gd.refl _
    · trivial
end
end Bi

end
section
set_option Elab.async false
set_option linter.all false
set_option autoImplicit false
set_option maxRecDepth 100000
set_option maxHeartbeats 1000000
/-! Bi12: assignments to names at once, to subscripts, to attributes; while. -/
namespace Bi
open PySem L2
section
variable {X : Cx} {W : WX} {φ : Phi} {T : Tab} {k : Nat} {m ma mb mc mo mi : ME} {ml : ML} {e a b c o i : Expr} {pos : Pos} {x y z : Str} {st : Stmt} {sts : List Stmt}
def mNever : MS := fun _ _ _ => .bad
theorem sims_never : SimS X W φ mNever st := ⟨PS.imp ps_never fun D σ H q => by
  obtain ⟨ρ, p, s, rel, sr, q⟩ := q
  exact q, fun p s => trivial⟩
def mPar (i j : Nat) (ml : ML) : MS := fun φ p s => (ml φ p s).toS p fun vs s => match vs with | [v, w] => .nx ((p.set i (some v)).set j (some w)) s | _ => .bad
theorem sims_par {i j : Nat} {px py pt : Pos} {kt k2 : Nat} {pt2 : Pos} (hc : X.calm = true) (hN : X.N.Nodup) (hi : X.N[i]? = some x) (hj : X.N[j]? = some y) (hij : i ≠ j)
    (hx : X.env.scope.names.lookup x = some .local) (hy : X.env.scope.names.lookup y = some .local) (ha : SimA X W φ ml [a, b])
    (hw : swappedStores [.Tuple [.Name x px, .Name y py] kt pt] (.Tuple [a, b] k2 pt2) X.env = pure (some [x, y]))
    (hs : swapsWithSole [.Tuple [.Name x px, .Name y py] kt pt] (.Tuple [a, b] k2 pt2) pos.line X.env = pure false) :
    SimS X W φ (mPar i j ml) (.Assign [.Tuple [.Name x px, .Name y py] kt pt] (.Tuple [a, b] k2 pt2) pos) := by
  refine ⟨PS.imp (ps_par hc hN hi hj hij hx hy ha.pa hw hs) fun D σ H q => ?_, fun p s => GdS.of (ha.gd p s) fun v s' _ => ?_⟩
  · obtain ⟨ρ, p, s, rel, sr, q⟩ := q
    refine tAS rel sr q fun vs s1 ρ1 H1 us e1 n1 b1 r1 sr1 h1 => ?_
    cases r1 with
    | nil => exact h1.elim
    | cons r1 rs => cases rs with
      | nil => exact h1.elim
      | cons r2 rs => cases rs with
        | cons _ _ => exact h1.elim
        | nil =>
          simp only [List.all_cons, List.all_nil, Bool.and_true, Bool.and_eq_true] at b1
          exact ⟨_, _, rfl, h1 ρ1 H1 _ (Nx.refl n1.rel) ((sr1.set b1.1 r1).set b1.2 r2)⟩
  · split
    · exact Gd.refl _
    · trivial
def mPar3 (i j l : Nat) (ml : ML) : MS := fun φ p s => (ml φ p s).toS p fun vs s => match vs with | [u, v, w] => .nx (((p.set i (some u)).set j (some v)).set l (some w)) s | _ => .bad
theorem sims_par3 {i j l : Nat} {px py pz pt : Pos} {kt k2 : Nat} {pt2 : Pos} (hc : X.calm = true) (hN : X.N.Nodup) (hi : X.N[i]? = some x) (hj : X.N[j]? = some y) (hl : X.N[l]? = some z) (hij : i ≠ j) (hil : i ≠ l) (hjl : j ≠ l)
    (hx : X.env.scope.names.lookup x = some .local) (hy : X.env.scope.names.lookup y = some .local) (hz : X.env.scope.names.lookup z = some .local) (ha : SimA X W φ ml [a, b, c])
    (hw : swappedStores [.Tuple [.Name x px, .Name y py, .Name z pz] kt pt] (.Tuple [a, b, c] k2 pt2) X.env = pure (some [x, y, z]))
    (hs : swapsWithSole [.Tuple [.Name x px, .Name y py, .Name z pz] kt pt] (.Tuple [a, b, c] k2 pt2) pos.line X.env = pure false) :
    SimS X W φ (mPar3 i j l ml) (.Assign [.Tuple [.Name x px, .Name y py, .Name z pz] kt pt] (.Tuple [a, b, c] k2 pt2) pos) := by
  refine ⟨PS.imp (ps_par3 hc hN hi hj hl hij hil hjl hx hy hz ha.pa hw hs) fun D σ H q => ?_, fun p s => GdS.of (ha.gd p s) fun v s' _ => ?_⟩
  · obtain ⟨ρ, p, s, rel, sr, q⟩ := q
    refine tAS rel sr q fun vs s1 ρ1 H1 us e1 n1 b1 r1 sr1 h1 => ?_
    cases r1 with
    | nil => exact h1.elim
    | cons r1 rs => cases rs with
      | nil => exact h1.elim
      | cons r2 rs => cases rs with
        | nil => exact h1.elim
        | cons r3 rs => cases rs with
          | cons _ _ => exact h1.elim
          | nil =>
            simp only [List.all_cons, List.all_nil, Bool.and_true, Bool.and_eq_true] at b1
            exact ⟨_, _, _, rfl, h1 ρ1 H1 _ (Nx.refl n1.rel) (((sr1.set b1.1 r1).set b1.2.1 r2).set b1.2.2 r3)⟩
  · split
    · exact Gd.refl _
    · trivial
/-! ### o[i] = v -/
def vSetIx (o i v : PV) (s : Sg) : R PV := match o with
  | .ref n => (match s.g[n]? with
    | some (.lst xs) => (match i with | .int k => (match ixN xs.length k with | some j => .ok .non (s.wr n (.lst (xs.set j v))) | none => .bad) | _ => .bad)
    | some (.dic kvs false) => (match keyOf i with | some k => if kvs.length < sizeLine then .ok .non (s.wr n (.dic (dPut kvs k v) false)) else .bad | none => .bad)
    | _ => .bad)
  | _ => .bad
theorem vSetIx_gd (o i v : PV) (s : Sg) : GdR s (vSetIx o i v s) := by
  unfold vSetIx
  split
  · split
    · split
      · split
        · exact Gd.wr _ _ _
        · trivial
      · trivial
    · split
      · split
        · exact Gd.wr _ _ _
        · trivial
      · trivial
    · trivial
  · trivial
def mSetIx (m mo mi : ME) : MS := fun φ p s => (m φ p s).toS p fun v s => (mo φ p s).toS p fun o s => (mi φ p s).toS p fun i s => (vSetIx o i v s).toS p fun _ s => .nx p s
theorem list_set_all {P : PV → Bool} {xs : List PV} {v : PV} (h : xs.all P = true) (hv : P v = true) (j : Nat) : (xs.set j v).all P = true := List.all_eq_true.mpr fun x hx => by
  rcases List.mem_or_eq_of_mem_set hx with h1 | h1
  · exact List.all_eq_true.mp h x h1
  · rw [h1]; exact hv
theorem sims_setIx {p1 : Pos} (hu : X.A.units + 1 < cLine) (h : Sim X W φ m e) (ho : Sim X W φ mo o) (hi : Sim X W φ mi i) (hs : swapsWithSole [.Subscript o i p1] e pos.line X.env = pure false) (hw : swappedStores [.Subscript o i p1] e X.env = pure none)
    (h1 : (assignEach [.Subscript o i p1] X.env).map (·.2) = [assign (.Subscript o i p1) X.env]) (hg : PG X (.Subscript o i p1) (gSub (tE X.K X.mg W φ mo) (tE X.K X.mg W φ mi) (fun o i v H Q => rSetL o i v H Q ∨ ∃ a H', o = .ref a ∧ DPut H a i v H' ∧ Q H'))) : SimS X W φ (mSetIx m mo mi) (.Assign [.Subscript o i p1] e pos) := by
  refine ⟨PS.imp (ps_asg h.pe hg hs hw h1) fun D σ H q => ?_, fun p s => GdS.of (h.gd p s) fun v s' _ => GdS.of (ho.gd p s') fun o s2 _ => GdS.of (hi.gd p s2) fun i s3 _ => GdS.of (vSetIx_gd o i v s3) fun _ s4 _ => Gd.refl _⟩
  obtain ⟨ρ, p, s, rel, sr, q⟩ := q
  refine tES rel sr q fun v s1 ρ1 H1 u e1 n1 b1 r1 sr1 q1 => ?_
  refine tES n1.rel sr1 q1 fun ov s2 ρ2 H2 u2 e2 n2 b2 r2 sr2 q2 => ?_
  refine tES n2.rel sr2 q2 fun iv s3 ρ3 H3 u3 e3 n3 b3 r3 sr3 q3 => ?_
  have n23 := n2.trans n3
  have rv := n23.rv r1 b1
  have bv := n23.bl b1
  have ro := n3.rv r2 b2
  unfold vSetIx at q3
  cases ov with
  | ref n =>
    cases ro
    simp only at q3
    cases e4 : s3.g[n]? with
    | none => rw [e4] at q3; exact q3.elim
    | some ob =>
      rw [e4] at q3
      cases ob with
      | lst xs =>
        simp only at q3
        cases iv with
        | int k =>
          cases r3
          simp only at q3
          obtain ⟨us, qh, rs⟩ := n3.rel.cell n _ e4
          cases e5 : ixN xs.length k with
          | none => rw [e5] at q3; exact q3.elim
          | some j =>
            rw [e5] at q3
            have nn := rel_wr_lst n3.rel e4 (list_set_all (lst_bd n3.rel e4) bv j) (paired_set rv j rs)
            exact .inl ⟨ρ3 n, us, k, j, rfl, rfl, qh, by rw [← rs.length]; exact e5, q3 ρ3 _ σ nn (sr3.mono nn)⟩
        | _ => exact q3.elim
      | dic kvs lk =>
        cases lk with
        | true => exact q3.elim
        | false =>
          simp only at q3
          cases e5 : keyOf iv with
          | none => rw [e5] at q3; exact q3.elim
          | some kk =>
            rw [e5] at q3
            obtain ⟨us, qh, rs⟩ := n3.rel.cell n _ e4
            simp only at q3
            by_cases hz : kvs.length < sizeLine
            · rw [if_pos hz] at q3
              have nn := rel_wr_dic n3.rel e4 (dPut_bd (n3.rel.wf n _ e4) bv) (dPut_rv (k := kk) rv rs)
              refine .inr ⟨ρ3 n, _, rfl, .inl ⟨us, kk, qh, keyOf_rv e5 r3, by rw [← rs.length]; exact hz, rfl⟩, q3 ρ3 _ σ nn (sr3.mono nn)⟩
            · rw [if_neg hz] at q3; exact q3.elim
      | _ => exact q3.elim
  | _ => exact q3.elim
theorem pg_setIx (hu : X.A.units + 1 < cLine) {p1 : Pos} {to ti : TE} (ho : PE X o to) (hi : PE X i ti) (hp : ∀ {t : TSet}, PSet X t → PG X (.Subscript o i p1) (gSub to ti t)) : PG X (.Subscript o i p1) (gSub to ti (fun o i v H Q => rSetL o i v H Q ∨ ∃ a H', o = .ref a ∧ DPut H a i v H' ∧ Q H')) := hp (PSet.or set_list (Bi.set_dict hu))
/-! ### o.f = v -/
def fPut (f : Str) (v : PV) : List (Str × PV) → List (Str × PV)
  | [] => [(f, v)]
  | (g, x) :: r => if g = f then (g, v) :: r else (g, x) :: fPut f v r
theorem fPut_rv {K : PySem.W.Frag} {mg : Str → Option Value} {H : Hp} {ρ : Nat → Addr} {f : Str} {v : PV} {u : V} (r : RV K mg H ρ v u) : ∀ {fs : List (Str × PV)} {ws : List (Str × V)}, RKs K mg H ρ fs ws → RKs K mg H ρ (fPut f v fs) (putF f u ws)
  | _, _, .nil => .cons ⟨rfl, r⟩ .nil
  | (g, x) :: fs, (g', w) :: ws, .cons h t => by
    have e : g = g' := h.1
    subst e
    unfold fPut putF
    by_cases c : g = f
    · rw [if_pos c, if_pos c]
      exact .cons ⟨rfl, r⟩ t
    · rw [if_neg c, if_neg c]
      exact .cons h (fPut_rv r t)
theorem fPut_bd {n : Nat} {f : Str} {v : PV} (b : v.bd n = true) : ∀ {fs : List (Str × PV)}, (fs.all fun kv => kv.2.bd n) = true → ((fPut f v fs).all fun kv => kv.2.bd n) = true
  | [], _ => by
    show (v.bd n && true) = true
    rw [b]; rfl
  | (g, x) :: fs, h => by
    rw [List.all_cons, Bool.and_eq_true] at h
    unfold fPut
    split
    · rw [List.all_cons, Bool.and_eq_true]
      exact ⟨b, h.2⟩
    · rw [List.all_cons, Bool.and_eq_true]
      exact ⟨h.1, fPut_bd b h.2⟩
def vSetAt (T : Tab) (f : Str) (o v : PV) (s : Sg) : R PV := match o with
  | .ref n => (match s.g[n]? with
    | some (.ins C fs) => if T.attr C f then (if fs.length < 1000 then .ok .non (s.wr n (.ins C (fPut f v fs))) else .bad) else .bad
    | _ => .bad)
  | _ => .bad
theorem vSetAt_gd (f : Str) (o v : PV) (s : Sg) : GdR s (vSetAt T f o v s) := by
  unfold vSetAt
  split
  · split
    · split
      · split
        · exact Gd.wr _ _ _
        · trivial
      · trivial
    · trivial
  · trivial
def mSetAt (T : Tab) (f : Str) (m mo : ME) : MS := fun φ p s => (m φ p s).toS p fun v s => (mo φ p s).toS p fun o s => (vSetAt T f o v s).toS p fun _ s => .nx p s
theorem sims_setAt {f : Str} {p1 : Pos} (F : Facts X T φ k) (h : Sim X W φ m e) (ho : Sim X W φ mo o) (hs : swapsWith e (some (.Attribute o f p1)) pos.line X.env = pure false) : SimS X W φ (mSetAt T f m mo) (.Assign [.Attribute o f p1] e pos) := by
  refine ⟨PS.imp (ps_fld ho.pe h.pe hs) fun D σ H q => ?_, fun p s => GdS.of (h.gd p s) fun v s' _ => GdS.of (ho.gd p s') fun o s2 _ => GdS.of (vSetAt_gd f o v s2) fun _ s4 _ => Gd.refl _⟩
  obtain ⟨ρ, p, s, rel, sr, q⟩ := q
  refine tES rel sr q fun v s1 ρ1 H1 u e1 n1 b1 r1 sr1 q1 => ?_
  refine tES n1.rel sr1 q1 fun ov s2 ρ2 H2 u2 e2 n2 b2 r2 sr2 q2 => ?_
  have rv := n2.rv r1 b1
  have bv := n2.bl b1
  unfold vSetAt at q2
  cases ov with
  | ref n =>
    cases r2
    simp only at q2
    cases e4 : s2.g[n]? with
    | none => rw [e4] at q2; exact q2.elim
    | some ob =>
      rw [e4] at q2
      cases ob with
      | ins C fs =>
        simp only at q2
        by_cases ha : T.attr C f = true
        · rw [if_pos ha] at q2
          obtain ⟨Ca, dx, ws, g1, g2, g3⟩ := n2.rel.cell n _ e4
          obtain ⟨cl, na⟩ := F.attr C f Ca ha g1
          by_cases hz : fs.length < 1000
          · rw [if_pos hz] at q2
            obtain ⟨w, hw, w1, w2⟩ := (n2.rel.cell n _ e4).there
            have kp : Keep X.K H2 (upd H2 (ρ2 n) (.ins Ca dx (putF f u ws))) := Keep.updH fun v e => by
              rw [hw] at e
              cases e
              exact ⟨w1, w2⟩
            have nn := n2.rel.wr (o' := .ins C (fPut f v fs)) e4 (fun _ z => by cases z) (fPut_bd bv (n2.rel.wf n _ e4)) ⟨Ca, dx, _, g1, upd_same, RKs.mono kp (fun _ _ => rfl) (fPut_rv rv g3) (fPut_bd bv (n2.rel.wf n _ e4))⟩
            exact ⟨ρ2 n, Ca, dx, ws, rfl, g2, cl, na, by rw [← g3.length]; exact hz, q2 ρ2 _ σ nn (sr2.mono nn)⟩
          · rw [if_neg hz] at q2; exact q2.elim
        · rw [if_neg ha] at q2; exact q2.elim
      | _ => exact q2.elim
  | _ => exact q2.elim
/-! ### while -/
def whN : Nat → ME → MS → Phi → Sl → Sg → Option RS
  | 0, _, _, _, _, _ => none
  | n + 1, c, b, φ, p, s => match c φ p s with
    | .ok (.bl true) s1 => (match b φ p s1 with
      | .nx p2 s2 => whN n c b φ p2 s2
      | .ct p2 s2 => whN n c b φ p2 s2
      | .bk p2 s2 => some (.nx p2 s2)
      | r => some r)
    | .ok (.bl false) s1 => some (.nx p s1)
    | .err C v s1 => some (.er C v p s1)
    | _ => some .bad
theorem whN_mono : ∀ {n : Nat} {c : ME} {b : MS} {φ : Phi} {p : Sl} {s : Sg} {r : RS}, whN n c b φ p s = some r → ∀ j, whN (n + j) c b φ p s = some r
  | 0, _, _, _, _, _, _, h, _ => by cases h
  | n + 1, c, b, φ, p, s, r, h, j => by
    have e : n + 1 + j = (n + j) + 1 := by omega
    rw [e]
    unfold whN at h ⊢
    split at h
    · split at h
      · exact whN_mono h j
      · exact whN_mono h j
      · exact h
      · exact h
    · exact h
    · exact h
    · exact h
open Classical in
noncomputable def mWh (c : ME) (b : MS) : MS := fun φ p s => if h : ∃ r n, whN n c b φ p s = some r then Classical.choose h else .bad
theorem mWh_of {c : ME} {b : MS} {p : Sl} {s : Sg} {r : RS} {n : Nat} (h : whN n c b φ p s = some r) : mWh c b φ p s = r := by
  have ex : ∃ r n, whN n c b φ p s = some r := ⟨r, n, h⟩
  unfold mWh
  rw [dif_pos ex]
  obtain ⟨n', h'⟩ := Classical.choose_spec ex
  have a := whN_mono h n'
  have b := whN_mono h' n
  rw [Nat.add_comm] at b
  rw [a] at b
  exact (Option.some.inj b).symm
theorem mWh_to {c : ME} {b : MS} {p : Sl} {s : Sg} (h : mWh c b φ p s ≠ .bad) : ∃ n, whN n c b φ p s = some (mWh c b φ p s) := by
  unfold mWh at h ⊢
  by_cases ex : ∃ r n, whN n c b φ p s = some r
  · rw [dif_pos ex]
    exact Classical.choose_spec ex
  · rw [dif_neg ex] at h
    exact absurd rfl h
/-- one turn -/
theorem mWh_eq (c : ME) (b : MS) (p : Sl) (s : Sg) : mWh c b φ p s = match c φ p s with
    | .ok (.bl true) s1 => (match b φ p s1 with
      | .nx p2 s2 => mWh c b φ p2 s2
      | .ct p2 s2 => mWh c b φ p2 s2
      | .bk p2 s2 => .nx p2 s2
      | r => r)
    | .ok (.bl false) s1 => .nx p s1
    | .err C v s1 => .er C v p s1
    | _ => .bad := by
  have key : ∀ (p2 : Sl) (s2 : Sg), (∀ n, whN (n + 1) c b φ p s = whN n c b φ p2 s2) → mWh c b φ p s = mWh c b φ p2 s2 := fun p2 s2 hn => by
    by_cases ex : ∃ r n, whN n c b φ p2 s2 = some r
    · obtain ⟨r, n, h⟩ := ex
      rw [mWh_of h, mWh_of (n := n + 1) (by rw [hn]; exact h)]
    · have ex' : ¬ ∃ r n, whN n c b φ p s = some r := fun ⟨r, n, h⟩ => by
        cases n with
        | zero => cases h
        | succ n => exact ex ⟨r, n, by rw [← hn]; exact h⟩
      unfold mWh
      rw [dif_neg ex, dif_neg ex']
  have one : ∀ r : RS, whN 1 c b φ p s = some r → mWh c b φ p s = r := fun r h => mWh_of h
  split
  · rename_i s1 e1
    split
    · rename_i p2 s2 e2
      exact key p2 s2 fun n => by
        rw [whN, e1]
        simp only [e2]
    · rename_i p2 s2 e2
      exact key p2 s2 fun n => by
        rw [whN, e1]
        simp only [e2]
    · rename_i p2 s2 e2
      exact one _ (by unfold whN; rw [e1]; simp only [e2])
    · rename_i h1 h2 h3
      refine one _ ?_
      unfold whN
      rw [e1]
      cases e2 : b φ p s1 with
      | nx p2 s2 => exact absurd e2 (h1 p2 s2)
      | ct p2 s2 => exact absurd e2 (h2 p2 s2)
      | bk p2 s2 => exact absurd e2 (h3 p2 s2)
      | _ => simp only [e2]
  · rename_i s1 e1
    exact one _ (by unfold whN; rw [e1])
  · rename_i C v s1 e1
    exact one _ (by unfold whN; rw [e1])
  · rename_i h1 h2 h3
    refine one _ ?_
    unfold whN
    split
    · rename_i s1 e1; exact absurd e1 (h1 s1)
    · rename_i s1 e1; exact absurd e1 (h2 s1)
    · rename_i C v s1 e1; exact absurd e1 (h3 C v s1)
    · rfl
theorem whN_gd {c : ME} {b : MS} (h1 : ∀ p s, GdR s (c φ p s)) (h2 : ∀ p s, GdS s (b φ p s)) : ∀ (n : Nat) (p : Sl) (s : Sg) (r : RS), whN n c b φ p s = some r → GdS s r
  | 0, p, s, r, h => by cases h
  | n + 1, p, s, r, h => by
    have g1 := h1 p s
    unfold whN at h
    split at h
    · rename_i s1 e1
      rw [e1] at g1
      have g2 := h2 p s1
      split at h
      · rename_i p2 s2 e2
        rw [e2] at g2
        exact GdS.trans (Gd.trans g1 g2) (whN_gd h1 h2 n p2 s2 r h)
      · rename_i p2 s2 e2
        rw [e2] at g2
        exact GdS.trans (Gd.trans g1 g2) (whN_gd h1 h2 n p2 s2 r h)
      · rename_i p2 s2 e2
        rw [e2] at g2
        cases h
        exact Gd.trans g1 g2
      · cases h
        exact GdS.trans g1 g2
    · rename_i s1 e1
      rw [e1] at g1
      cases h
      exact g1
    · rename_i C v s1 e1
      rw [e1] at g1
      cases h
      exact g1
    · cases h
      trivial
theorem sims_while {m2 : MS} {body : List Stmt} (hp : PassesOwn (model X.prog X.w) X.A X.env X.xe) (hc : Sim X W φ mc c) (hb : SimSs X W φ m2 body) : SimS X W φ (mWh mc m2) (.While c body [] pos) := by
  refine ⟨PS.imp (ps_while hp hc.pt hb.pss) fun D σ H q => ?_, fun p s => ?_⟩
  · obtain ⟨ρ, p, s, rel, sr, q⟩ := q
    obtain ⟨n, hn⟩ := mWh_to q.nobad
    refine ⟨fun n σ H => ∃ ρ p s r, Rel X.K X.mg ρ s H ∧ SRel X.K X.mg ρ s H p σ ∧ whN n mc m2 φ p s = some r ∧ PostS X.K X.mg W D ρ s H r, ⟨n, ρ, p, s, _, rel, sr, hn, q⟩, ?_⟩
    rintro n σ H ⟨ρ, p, s, r, rel, sr, hn, q⟩
    cases n with
    | zero => cases hn
    | succ n =>
      have q2 : PostS X.K X.mg W D ρ s H ((mc φ p s).toS p (onS fun t s1 => match t with
          | true => (match m2 φ p s1 with
            | .nx p2 s2 => (whN n mc m2 φ p2 s2).getD .bad
            | .ct p2 s2 => (whN n mc m2 φ p2 s2).getD .bad
            | .bk p2 s2 => .nx p2 s2
            | r => r)
          | false => .nx p s1)) := by
        unfold whN at hn
        split at hn
        · rename_i s1 e1
          rw [e1]
          change PostS X.K X.mg W D ρ s H (match m2 φ p s1 with | .nx p2 s2 => (whN n mc m2 φ p2 s2).getD .bad | .ct p2 s2 => (whN n mc m2 φ p2 s2).getD .bad | .bk p2 s2 => .nx p2 s2 | r => r)
          split at hn
          · rename_i p2 s2 e2
            change PostS X.K X.mg W D ρ s H ((whN n mc m2 φ p2 s2).getD .bad)
            rw [hn]
            exact q
          · rename_i p2 s2 e2
            change PostS X.K X.mg W D ρ s H ((whN n mc m2 φ p2 s2).getD .bad)
            rw [hn]
            exact q
          · rename_i p2 s2 e2
            cases hn
            exact q
          · rename_i h1 h2 h3
            cases hn
            cases e2 : m2 φ p s1 with
            | nx p2 s2 => exact absurd e2 (h1 p2 s2)
            | ct p2 s2 => exact absurd e2 (h2 p2 s2)
            | bk p2 s2 => exact absurd e2 (h3 p2 s2)
            | _ => rw [e2] at q; exact q
        · rename_i s1 e1
          rw [e1]; cases hn; exact q
        · rename_i C v s1 e1
          rw [e1]; cases hn; exact q
        · cases hn; exact q.elim
      refine tTS rel sr q2 fun t s1 ρ1 H1 e1 n1 sr1 h1 => ?_
      cases t with
      | false => exact iteF (h1 ρ1 H1 σ (Nx.refl n1.rel) sr1)
      | true =>
        refine iteT ?_
        have hn1 : ∀ p2 s2, m2 φ p s1 = .nx p2 s2 ∨ m2 φ p s1 = .ct p2 s2 → whN n mc m2 φ p2 s2 = some r := fun p2 s2 h => by
          unfold whN at hn
          rw [e1] at hn
          simp only at hn
          rcases h with h | h <;> (rw [h] at hn; exact hn)
        refine ⟨fun σ' H' => ∃ ρ p s r, Rel X.K X.mg ρ s H' ∧ SRel X.K X.mg ρ s H' p σ' ∧ whN n mc m2 φ p s = some r ∧ PostS X.K X.mg W D ρ s H' r, fun σ' H' h => ⟨n, Nat.lt_succ_self n, h⟩, ρ1, p, s1, n1.rel, sr1, ?_⟩
        have h1 : PostS X.K X.mg W D ρ1 s1 H1 (match m2 φ p s1 with | .nx p2 s2 => (whN n mc m2 φ p2 s2).getD .bad | .ct p2 s2 => (whN n mc m2 φ p2 s2).getD .bad | .bk p2 s2 => .nx p2 s2 | r => r) := h1
        cases e2 : m2 φ p s1 with
        | nx p2 s2 =>
          rw [e2] at h1
          have h1 : PostS X.K X.mg W D ρ1 s1 H1 ((whN n mc m2 φ p2 s2).getD .bad) := h1
          rw [hn1 p2 s2 (.inl e2)] at h1
          exact fun ρ' H' σ' n' sr' => ⟨ρ', p2, s2, r, n'.rel, sr', hn1 p2 s2 (.inl e2), PostS.step h1 n'⟩
        | ct p2 s2 =>
          rw [e2] at h1
          have h1 : PostS X.K X.mg W D ρ1 s1 H1 ((whN n mc m2 φ p2 s2).getD .bad) := h1
          rw [hn1 p2 s2 (.inr e2)] at h1
          exact fun ρ' H' σ' n' sr' => ⟨ρ', p2, s2, r, n'.rel, sr', hn1 p2 s2 (.inr e2), PostS.step h1 n'⟩
        | bk p2 s2 => rw [e2] at h1; exact h1
        | rt v s2 => rw [e2] at h1; exact h1
        | er C v p2 s2 => rw [e2] at h1; exact h1
        | bad => rw [e2] at h1; exact h1
  · by_cases hb' : mWh mc m2 φ p s = .bad
    · rw [hb']; trivial
    · obtain ⟨n, hn⟩ := mWh_to hb'
      exact whN_gd hc.gd hb.gd n p s _ hn
end
end Bi

end
section
set_option Elab.async false
set_option linter.all false
set_option autoImplicit false
set_option maxRecDepth 100000
set_option maxHeartbeats 1000000
/-! Bi13: what a loop walks. -/
namespace Bi
open PySem L2
/-- what a walk gives; the cells that must stay meanwhile; the dict that is locked for it -/
structure Wk where
  xs : List PV
  src : List (Nat × PO)
  unl : Option Nat
def Wk.ok (it : Wk) (s : Sg) : Prop := ∀ q ∈ it.src, s.g[q.1]? = some q.2
abbrev MI := Phi → Sl → Sg → R Wk
def Sg.lk (s : Sg) (n : Nat) (kvs : List (Key × PV)) (b : Bool) : Sg := ⟨s.g.set n (.dic kvs b), s.low⟩
structure WalkP (K : PySem.W.Frag) (mg : Str → Option Value) (ρ : Nat → Addr) (s : Sg) (H : Hp) (it : Wk) (J : It) (G : Hp → Prop) (Y : Nat → Hp → V → Hp → Prop) : Prop where
  walk : Walk J it.xs.length G Y
  stays : ∀ ρ2 s2 H2, Nx K mg ρ s H ρ2 s2 H2 → it.ok s2 → G H2
  gives : ∀ i ρ2 s2 H2 x H3, Nx K mg ρ s H ρ2 s2 H2 → it.ok s2 → i < it.xs.length → Y i H2 x H3 → ∃ y, it.xs[i]? = some y ∧ Nx K mg ρ2 s2 H2 ρ2 s2 H3 ∧ RV K mg H3 ρ2 y x
structure RRi (X : Cx) (H : Hp) (ρ : Nat → Addr) (s : Sg) (it : Wk) (J : It) : Prop where
  bd : it.xs.all (PV.bd s.g.length) = true
  unl : ∀ n, it.unl = some n → n < s.g.length ∧ ∀ o' u', X.H_0 (ρ n) ≠ some (.frz o' u')
  go : ∃ G Y, WalkP X.K X.mg ρ s H it J G Y
def tI (X : Cx) (W : WX) (φ : Phi) (mi : MI) : TI := fun σ H R => ∃ ρ p s, Rel X.K X.mg ρ s H ∧ SRel X.K X.mg ρ s H p σ ∧ Post X.K X.mg (RRi X) W ρ s H σ (fun J H' => R J H') (mi φ p s)
def lockd (s : Sg) (n : Nat) : Bool := match s.g[n]? with | some (.dic _ true) => true | _ => false
structure SimI (X : Cx) (W : WX) (φ : Phi) (mi : MI) (tg iter : Expr) : Prop where
  pi : PI X tg iter (tI X W φ mi)
  gd : ∀ p s, GdR s (mi φ p s)
  nl : ∀ p s it s1 n, mi φ p s = .ok it s1 → it.unl = some n → lockd s n = false
theorem PI.imp {X : Cx} {tg e : Expr} {t t' : TI} (h : PI X tg e t) (k : ∀ σ H R, t' σ H R → t σ H R) : PI X tg e t' := ⟨fun pins s σ H R I q => h.run pins s σ H R I (k σ H R q)⟩
theorem PI.or {X : Cx} {tg e : Expr} {t t' : TI} (h : PI X tg e t) (h' : PI X tg e t') : PI X tg e (fun σ H R => t σ H R ∨ t' σ H R) := ⟨fun pins s σ H R I q => q.elim (h.run pins s σ H R I) (h'.run pins s σ H R I)⟩
section
variable {K : PySem.W.Frag} {mg : Str → Option Value} {ρ ρ2 : Nat → Addr} {s s2 : Sg} {H H2 : Hp}
theorem Nx.low (n : Nx K mg ρ s H ρ2 s2 H2) (low : Nat) : Nx K mg ρ s H ρ2 ⟨s2.g, low⟩ H2 := ⟨n.rel.low _, n.keep, n.agr, n.len, n.fz⟩
theorem rel_lock {n : Nat} {kvs : List (Key × PV)} {ws : List (Key × V)} {od : Obj} (rel : Rel K mg ρ s H) (e : s.g[n]? = some (.dic kvs false)) (r : RKs K mg H ρ kvs ws) : Nx K mg ρ s H ρ (s.lk n kvs true) (upd H (ρ n) (.frz od (.dK ws))) := by
  obtain ⟨w, hw, w1, w2⟩ := (rel.cell n _ e).there
  have kp : Keep K H (upd H (ρ n) (.frz od (.dK ws))) := Keep.updH fun v e => by
    rw [hw] at e
    cases e
    exact ⟨w1, w2⟩
  exact (rel.wr (o' := .dic kvs true) e (fun _ z => by cases z) (show (PO.dic kvs false).bd s.g.length = true from rel.wf n _ e) ⟨od, ws, upd_same, RKs.mono kp (fun _ _ => rfl) r (rel.wf n _ e)⟩).low s.low
/-- back from a lock that was set since s -/
theorem Nx.unlock {n : Nat} {kvs : List (Key × PV)} {ws : List (Key × V)} {o : Obj} (a : Nx K mg ρ s H ρ2 s2 H2) (h0 : ∀ kvs, s.g[n]? ≠ some (.dic kvs true)) (e : s2.g[n]? = some (.dic kvs true)) (eH : H2 (ρ2 n) = some (.frz o (.dK ws))) (r : RKs K mg H2 ρ2 kvs ws) :
    Nx K mg ρ s H ρ2 (s2.lk n kvs false) (upd H2 (ρ2 n) (.dK ws)) := by
  have hn2 : n < s2.g.length := (List.getElem?_eq_some_iff.mp e).1
  obtain ⟨w, hw, w1, w2⟩ := (a.rel.cell n _ e).there
  have kp : Keep K H2 (upd H2 (ρ2 n) (.dK ws)) := Keep.updH fun v e => by
    rw [hw] at e
    cases e
    exact ⟨w1, w2⟩
  obtain ⟨_, q⟩ := a.rel.wr0 (o' := .dic kvs false) e (show (PO.dic kvs true).bd s2.g.length = true from a.rel.wf n _ e) ⟨ws, upd_same, RKs.mono kp (fun _ _ => rfl) r (a.rel.wf n _ e)⟩
  refine ⟨q _, a.keep.trans kp, a.agr, by show _ ≤ (s2.g.set n _).length; rw [List.length_set]; exact a.len, fun m kvs' em => ?_⟩
  have hm : m < s.g.length := (List.getElem?_eq_some_iff.mp em).1
  obtain ⟨e1, f⟩ := a.fz m kvs' em
  have hne : m ≠ n := fun z => h0 kvs' (z ▸ em)
  refine ⟨?_, fun o' ws' q => ?_⟩
  · show (s2.g.set n _)[m]? = _
    rw [List.getElem?_set_ne (Ne.symm hne)]
    exact e1
  · have hm2 : m < s2.g.length := Nat.lt_of_lt_of_le hm a.len
    rw [upd_ne fun z => hne (a.rel.inj m n hm2 hn2 ((a.agr m hm).trans z))]
    exact f o' ws' q
theorem Gd.lk {n : Nat} {kvs : List (Key × PV)} {b c : Bool} (e : s.g[n]? = some (.dic kvs b)) : Gd s (s.lk n kvs c) where
  len := by show _ ≤ (s.g.set n _).length; simp
  low := Nat.le_refl _
  old := fun j h1 h2 o' e' => by
    have e' : (s.g.set n (.dic kvs c))[j]? = some o' := e'
    by_cases hj : j = n
    · subst hj
      rw [List.getElem?_set_self h1] at e'
      cases e'
      exact ⟨_, e, fun _ q => q⟩
    · rw [List.getElem?_set_ne (Ne.symm hj)] at e'
      exact ⟨o', e', fun _ q => q⟩
theorem rd_frz_keep {a : Addr} {o : Obj} {u : HO} {b : Addr} {v : HO} (h : H a = some (.frz o u)) (hb : H b = none) : upd H b v a = some (.frz o u) := by
  rw [upd_ne (ne_of_none h hb)]
  exact h
end
/-- locked where the value has come -/
theorem pe_lk {X : Cx} {e : Expr} {te : TE} (h : PE X e te) : PE X e (fun σ H Q => te σ H fun v H1 => Q v H1 ∨ ∃ d u, H1 d = some u ∧ Mut (some u) ∧ ((∀ o' u', X.H_0 d ≠ some (.frz o' u')) → ∀ od, Q v (upd H1 d (.frz od u)))) := by
  refine ⟨fun pins s σ H Q I hw => thn (h.run pins s σ H _ I hw) fun v s1 ⟨x, H1, I1, r, q⟩ => ?_⟩
  rcases q with q | ⟨d, u, hd, mu, q⟩
  · exact ⟨x, H1, I1, r, q⟩
  · obtain ⟨od, I2⟩ := I1.lock hd mu
    exact ⟨x, _, I2, r, q (I1.nofrz hd mu) od⟩
/-- what may be let loose -/
def Unl (X : Cx) (H H' : Hp) : Prop := H' = H ∨ ∃ d od u, H d = some (.frz od u) ∧ (∀ o' u', X.H_0 d ≠ some (.frz o' u')) ∧ H' = upd H d u
theorem Unl.inv {X : Cx} {pins : List (Addr × Obj)} {σ : L2.St} {H H' : Hp} {s : Shared} (u : Unl X H H') (I : L2.Inv X pins σ H s) : L2.Inv X pins σ H' s := by
  rcases u with rfl | ⟨d, od, u, h, hn, rfl⟩
  · exact I
  · exact I.unlock h hn
theorem pe_un {X : Cx} {e : Expr} {te : TE} (h : PE X e te) : PE X e (fun σ H Q => te σ H fun v H1 => ∃ H2, Unl X H1 H2 ∧ Q v H2) :=
  ⟨fun pins s σ H Q I hw => thn (h.run pins s σ H _ I hw) fun v s1 ⟨x, H1, I1, r, H2, u, q⟩ => ⟨x, H2, u.inv I1, r, q⟩⟩
def unEnds (X : Cx) (D : Ends) : Ends := ⟨fun σ H => ∃ H2, Unl X H H2 ∧ D.nx σ H2, fun v H => ∃ H2, Unl X H H2 ∧ D.rt v H2, fun σ H => ∃ H2, Unl X H H2 ∧ D.bk σ H2, fun σ H => ∃ H2, Unl X H H2 ∧ D.ct σ H2⟩
theorem ps_un {X : Cx} {st : Stmt} {t : TS} (h : PS X st t) : PS X st (fun D σ H => t (unEnds X D) σ H) := by
  refine ⟨fun pins s σ H D I hw => thn (h.run pins s σ H _ I hw) fun f s1 q => ?_⟩
  cases f with
  | next => obtain ⟨σ', H', I', H2, u, q⟩ := q; exact ⟨σ', H2, u.inv I', q⟩
  | brk => obtain ⟨σ', H', I', H2, u, q⟩ := q; exact ⟨σ', H2, u.inv I', q⟩
  | cont => obtain ⟨σ', H', I', H2, u, q⟩ := q; exact ⟨σ', H2, u.inv I', q⟩
  | ret v => obtain ⟨x, σ', H', I', r, H2, u, q⟩ := q; exact ⟨x, σ', H2, u.inv I', r, q⟩
/-! ### a list, a tuple, a text, a dict's keys -/
def chars (z : Str) : List PV := z.cps.toList.map fun c => .str ⟨#[c]⟩
def keysP (kvs : List (Key × PV)) : List PV := kvs.map fun kv => kPV kv.1
def vIter (v : PV) (s : Sg) : R Wk := match v with
  | .tup xs => .ok ⟨xs, [], none⟩ s
  | .lsq xs => .ok ⟨xs, [], none⟩ s
  | .str z => .ok ⟨chars z, [], none⟩ s
  | .ref n => (match s.g[n]? with
    | some (.lst xs) => .ok ⟨xs, [(n, .lst xs)], none⟩ s
    | some (.dic kvs false) => .ok ⟨keysP kvs, [(n, .dic kvs true)], some n⟩ (s.lk n kvs true)
    | some (.dic kvs true) => .ok ⟨keysP kvs, [(n, .dic kvs true)], none⟩ s
    | _ => .bad)
  | _ => .bad
def mSeqI (m : ME) : MI := fun φ p s => (m φ p s).bind vIter
theorem vIter_gd (v : PV) (s : Sg) : GdR s (vIter v s) := by
  unfold vIter
  split
  · exact Gd.refl _
  · exact Gd.refl _
  · exact Gd.refl _
  · split
    · exact Gd.refl _
    · rename_i e
      exact Gd.lk e
    · exact Gd.refl _
    · trivial
  · trivial
section
variable {X : Cx} {W : WX} {φ : Phi} {T : Tab} {k : Nat} {m ma mb mc mo mi : ME} {ml : ML} {e a b c o i tg : Expr} {pos p1 : Pos} {x y z : Str} {st : Stmt} {sts : List Stmt}
theorem chars_bd (n : Nat) (z : Str) : (chars z).all (PV.bd n) = true := List.all_eq_true.mpr fun x hx => by
  obtain ⟨q, _, rfl⟩ := List.mem_map.mp hx
  rw [PV.bd]
theorem keysP_bd (n : Nat) (kvs : List (Key × PV)) : (keysP kvs).all (PV.bd n) = true := keys_bd n kvs
theorem rd_of_lst {ρ : Nat → Addr} {s : Sg} {H : Hp} (rel : Rel X.K X.mg ρ s H) {n : Nat} {xs : List PV} (e : s.g[n]? = some (.lst xs)) : ∃ us, H (ρ n) = some (.lst us) ∧ RVs X.K X.mg H ρ xs us := rel.cell n _ e
/-- a tuple walked -/
theorem walkp_tup {ρ : Nat → Addr} {s : Sg} {H : Hp} {xs : List PV} {us : List V} {a : Addr} (q : SqT X.K H a us) (r : RVs X.K X.mg H ρ xs us) (b : xs.all (PV.bd s.g.length) = true) : ∃ G Y, WalkP X.K X.mg ρ s H ⟨xs, [], none⟩ (Itt X.K a) G Y := by
  have w := walk_tup (K := X.K) (a := a) (xs := us)
  rw [← r.length] at w
  refine ⟨_, _, w, fun ρ2 s2 H2 n _ => n.keep.tup _ _ q, fun i ρ2 s2 H2 x H3 n _ hi y => ?_⟩
  obtain ⟨e1, e2⟩ := y
  subst e1
  obtain ⟨y, e3, r3⟩ := paired_some' (n.rvs r b) e2
  exact ⟨y, e3, Nx.refl n.rel, r3⟩
theorem sql_keep {K : PySem.W.Frag} {H H' : Hp} {a : Addr} {us : List V} (k : Keep K H H') (h : SqF K H a us) : SqL K H' a us := (k.frz a us h).sq
theorem walkp_lsq {ρ : Nat → Addr} {s : Sg} {H : Hp} {xs : List PV} {us : List V} {a : Addr} (q : SqF X.K H a us) (r : RVs X.K X.mg H ρ xs us) (b : xs.all (PV.bd s.g.length) = true) : ∃ G Y, WalkP X.K X.mg ρ s H ⟨xs, [], none⟩ (Itl X.K a) G Y := by
  have w := walk_list (K := X.K) (a := a) (xs := us)
  rw [← r.length] at w
  refine ⟨_, _, w, fun ρ2 s2 H2 n _ => sql_keep n.keep q, fun i ρ2 s2 H2 x H3 n _ hi y => ?_⟩
  obtain ⟨e1, e2⟩ := y
  subst e1
  obtain ⟨y, e3, r3⟩ := paired_some' (n.rvs r b) e2
  exact ⟨y, e3, Nx.refl n.rel, r3⟩
/-- a list walked: it stands as it was, its items in this heap -/
theorem walkp_lst {ρ : Nat → Addr} {s : Sg} {H : Hp} {xs : List PV} {n : Nat} (rel : Rel X.K X.mg ρ s H) (e : s.g[n]? = some (.lst xs)) : ∃ G Y, WalkP X.K X.mg ρ s H ⟨xs, [(n, .lst xs)], none⟩ (Itl X.K (ρ n)) G Y := by
  have hn : n < s.g.length := (List.getElem?_eq_some_iff.mp e).1
  refine ⟨fun H => ∃ us, SqL X.K H (ρ n) us ∧ us.length = xs.length, fun i H x H' => H' = H ∧ ∀ us, SqL X.K H (ρ n) us → us[i]? = some x, ⟨fun i H hi ⟨us, q, hl⟩ => ⟨us, us[i]'(by rw [hl]; exact hi), q, by simp⟩, fun H ⟨us, q, hl⟩ => ⟨us, q, by rw [hl]; exact Nat.le_refl _⟩, fun i H x H' hi q y => y⟩, fun ρ2 s2 H2 nn ok => ?_, fun i ρ2 s2 H2 x H3 nn ok hi y => ?_⟩
  · have e2 := ok (n, .lst xs) (List.mem_cons_self ..)
    obtain ⟨us, q, r⟩ := nn.rel.cell n _ e2
    rw [nn.agr n hn] at q
    exact ⟨us, SqL.of q, r.length.symm⟩
  · have e2 := ok (n, .lst xs) (List.mem_cons_self ..)
    obtain ⟨us, q, r⟩ := nn.rel.cell n _ e2
    rw [nn.agr n hn] at q
    obtain ⟨e1, e3⟩ := y
    subst e1
    obtain ⟨y, e4, r4⟩ := paired_some' r (e3 us (SqL.of q))
    exact ⟨y, e4, Nx.refl nn.rel, r4⟩
theorem walkp_str {ρ : Nat → Addr} {s : Sg} {H : Hp} (z : Str) : ∃ G Y, WalkP X.K X.mg ρ s H ⟨chars z, [], none⟩ (Its z) G Y := by
  have w := walk_str (z := z)
  have hl : (chars z).length = z.cps.size := by unfold chars; simp
  rw [← hl] at w
  refine ⟨_, _, w, fun _ _ _ _ _ => trivial, fun i ρ2 s2 H2 x H3 n _ hi y => ?_⟩
  obtain ⟨e1, c, e2, rfl⟩ := y
  subst e1
  refine ⟨.str ⟨#[c]⟩, ?_, Nx.refl n.rel, .str _⟩
  show (z.cps.toList.map fun c => PV.str ⟨#[c]⟩)[i]? = _
  rw [List.getElem?_map, Array.getElem?_toList, e2]
  rfl
/-- a locked dict stands as it was -/
theorem frz_stays {ρ ρ2 : Nat → Addr} {s s2 : Sg} {H H2 : Hp} {n : Nat} {kvs : List (Key × PV)} {o : Obj} {ws : List (Key × V)} (e : s.g[n]? = some (.dic kvs true)) (eH : H (ρ n) = some (.frz o (.dK ws))) (nn : Nx X.K X.mg ρ s H ρ2 s2 H2) (rel : Rel X.K X.mg ρ s H) (r : RKs X.K X.mg H ρ kvs ws) : H2 (ρ n) = some (.frz o (.dK ws)) ∧ RKs X.K X.mg H2 ρ2 kvs ws :=
  ⟨(nn.fz n kvs e).2 o ws eH, RKs.mono nn.keep nn.agr r (rel.wf n _ e)⟩
/-- a dict walked by keys; by values; by pairs -/
theorem walkp_keys {ρ : Nat → Addr} {s : Sg} {H : Hp} {n : Nat} {kvs : List (Key × PV)} {o : Obj} {ws : List (Key × V)} {u : Option Nat} (rel : Rel X.K X.mg ρ s H) (e : s.g[n]? = some (.dic kvs true)) (eH : H (ρ n) = some (.frz o (.dK ws))) (r : RKs X.K X.mg H ρ kvs ws) :
    ∃ G Y, WalkP X.K X.mg ρ s H ⟨keysP kvs, [(n, .dic kvs true)], u⟩ (Itk (ρ n) o ws) G Y := by
  have w := walk_keys (d := ρ n) (o := o) (kvs := ws)
  have hl : (keysP kvs).length = ws.length := by unfold keysP; rw [List.length_map]; exact r.length
  rw [← hl] at w
  refine ⟨_, _, w, fun ρ2 s2 H2 nn _ => (frz_stays e eH nn rel r).1, fun i ρ2 s2 H2 x H3 nn _ hi y => ?_⟩
  obtain ⟨e1, k, v, e2, rfl⟩ := y
  subst e1
  obtain ⟨q, e3, r3⟩ := paired_some' (frz_stays e eH nn rel r).2 e2
  refine ⟨kPV k, ?_, Nx.refl nn.rel, kPV_rv k⟩
  show (kvs.map fun kv => kPV kv.1)[i]? = _
  have e4 : q.1 = k := r3.1
  rw [List.getElem?_map, e3, ← e4]
  rfl
def valsP (kvs : List (Key × PV)) : List PV := kvs.map fun kv => kv.2
def itemsP (kvs : List (Key × PV)) : List PV := kvs.map fun kv => .tup [kPV kv.1, kv.2]
theorem walkp_vals {ρ : Nat → Addr} {s : Sg} {H : Hp} {n : Nat} {kvs : List (Key × PV)} {o : Obj} {ws : List (Key × V)} {u : Option Nat} (rel : Rel X.K X.mg ρ s H) (e : s.g[n]? = some (.dic kvs true)) (eH : H (ρ n) = some (.frz o (.dK ws))) (r : RKs X.K X.mg H ρ kvs ws) :
    ∃ G Y, WalkP X.K X.mg ρ s H ⟨valsP kvs, [(n, .dic kvs true)], u⟩ (Itd (ρ n) o ws) G Y := by
  have w := walk_values (d := ρ n) (o := o) (kvs := ws)
  have hl : (valsP kvs).length = ws.length := by unfold valsP; rw [List.length_map]; exact r.length
  rw [← hl] at w
  refine ⟨_, _, w, fun ρ2 s2 H2 nn _ => (frz_stays e eH nn rel r).1, fun i ρ2 s2 H2 x H3 nn _ hi y => ?_⟩
  obtain ⟨e1, k, e2⟩ := y
  subst e1
  obtain ⟨q, e3, r3⟩ := paired_some' (frz_stays e eH nn rel r).2 e2
  refine ⟨q.2, ?_, Nx.refl nn.rel, r3.2⟩
  show (kvs.map fun kv => kv.2)[i]? = _
  rw [List.getElem?_map, e3]
  rfl
/-- a new pair -/
theorem pair_new {ρ : Nat → Addr} {s : Sg} {H : Hp} {x y : PV} {u v : V} {T : Addr} (rel : Rel X.K X.mg ρ s H) (hT : H T = none) (b1 : x.bd s.g.length = true) (b2 : y.bd s.g.length = true) (r1 : RV X.K X.mg H ρ x u) (r2 : RV X.K X.mg H ρ y v) :
    Nx X.K X.mg ρ s H ρ s (upd H T (.tup [u, v])) ∧ RV X.K X.mg (upd H T (.tup [u, v])) ρ (.tup [x, y]) (.ref T) :=
  rv_tup_new rel hT (by simp [b1, b2]) (.cons r1 (.cons r2 .nil))
theorem walkp_items {ρ : Nat → Addr} {s : Sg} {H : Hp} {n : Nat} {kvs : List (Key × PV)} {o : Obj} {ws : List (Key × V)} {u : Option Nat} (rel : Rel X.K X.mg ρ s H) (e : s.g[n]? = some (.dic kvs true)) (eH : H (ρ n) = some (.frz o (.dK ws))) (r : RKs X.K X.mg H ρ kvs ws) :
    ∃ G Y, WalkP X.K X.mg ρ s H ⟨itemsP kvs, [(n, .dic kvs true)], u⟩ (Iti (ρ n) o ws) G Y := by
  have w := walk_items (d := ρ n) (o := o) (kvs := ws)
  have hl : (itemsP kvs).length = ws.length := by unfold itemsP; rw [List.length_map]; exact r.length
  rw [← hl] at w
  refine ⟨_, _, w, fun ρ2 s2 H2 nn _ => (frz_stays e eH nn rel r).1, fun i ρ2 s2 H2 x H3 nn _ hi y => ?_⟩
  obtain ⟨T, a, b, rfl, hT, rfl, e2, e3⟩ := y
  have e2 : (ws[i]?.map fun kv => kV kv.1) = some a := e2
  have e3 : ws[i]?.map Prod.snd = some b := e3
  cases e4 : ws[i]? with
  | none => rw [e4] at e2; cases e2
  | some kv =>
    rw [e4] at e2 e3
    cases e2
    cases e3
    have nr := (frz_stays e eH nn rel r).2
    obtain ⟨q, e5, r5⟩ := paired_some' nr e4
    have bq : q.2.bd s2.g.length = true := nn.bl (List.all_eq_true.mp (rel.wf n _ e) q (List.mem_of_getElem? e5))
    obtain ⟨n3, r3⟩ := pair_new nn.rel hT (kPV_bd _ q.1) bq (kPV_rv q.1) r5.2
    refine ⟨.tup [kPV q.1, q.2], ?_, ?_, ?_⟩
    · show (kvs.map fun kv => PV.tup [kPV kv.1, kv.2])[i]? = _
      rw [List.getElem?_map, e5]
      rfl
    · rw [r5.1] at n3
      exact n3
    · rw [r5.1] at r3 ⊢
      exact r3
/-! ### the sources -/
/-- the lock is new -/
def chk (s0 : Sg) (it : Wk) (s : Sg) : R Wk := match it.unl with
  | some n => if lockd s0 n then .bad else .ok it s
  | none => .ok it s
def mI (f : PV → Sg → R Wk) (m : ME) : MI := fun φ p s => ((m φ p s).bind f).bind (chk s)
theorem mI_gd {f : PV → Sg → R Wk} (h : ∀ p s, GdR s (m φ p s)) (hf : ∀ v s, GdR s (f v s)) (p : Sl) (s : Sg) : GdR s (mI f m φ p s) := ((h p s).bind fun v s' _ => hf v s').bind fun it s' _ => by
  unfold chk
  split
  · split
    · trivial
    · exact Gd.refl _
  · exact Gd.refl _
theorem mI_nl {f : PV → Sg → R Wk} (p : Sl) (s : Sg) (it : Wk) (s1 : Sg) (n : Nat) (h : mI f m φ p s = .ok it s1) (hu : it.unl = some n) : lockd s n = false := by
  unfold mI at h
  cases e : (m φ p s).bind f with
  | ok it2 s2 =>
    rw [e] at h
    have h : chk s it2 s2 = .ok it s1 := h
    unfold chk at h
    split at h
    · rename_i n2 e2
      split at h
      · cases h
      · rename_i hl
        cases h
        rw [hu] at e2
        cases e2
        exact Bool.eq_false_iff.mpr hl
    · rename_i e2
      cases h
      rw [hu] at e2
      cases e2
  | err C v s2 => rw [e] at h; cases h
  | bad => rw [e] at h; cases h
theorem nl_of {α : Type} {f : α → Sg → R Wk} (hf : ∀ v s it s1, f v s = .ok it s1 → it.unl = none) {r : R α} {s : Sg} {it : Wk} {s1 : Sg} {n : Nat} (h : r.bind f = .ok it s1) (hu : it.unl = some n) : lockd s n = false := by
  cases r with
  | ok v s2 =>
    have q := hf v s2 it s1 h
    rw [q] at hu
    cases hu
  | err C v s2 => cases h
  | bad => cases h
/-- what a source says at a value, by its kind -/
structure SrcAt (X : Cx) (f : PV → Sg → R Wk) (P : PV → Sg → Prop) (r : V → Hp → (It → Hp → Prop) → Prop) : Prop where
  run : ∀ (W : WX) (ρ0 : Nat → Addr) (s0 : Sg) (H0 : Hp) (σ : L2.St) (ρ : Nat → Addr) (s : Sg) (H : Hp) (v : PV) (u : V) (R : It → Hp → Prop), P v s → Nx X.K X.mg ρ0 s0 H0 ρ s H → v.bd s.g.length = true → RV X.K X.mg H ρ v u →
    Post X.K X.mg (RRi X) W ρ s H σ (fun J H' => R J H') ((f v s).bind (chk s0)) → r u H R
def tIV (te : TE) (r : V → Hp → (It → Hp → Prop) → Prop) : TI := fun σ H R => te σ H fun v H1 => r v H1 R
theorem tI_at {f : PV → Sg → R Wk} {P : PV → Sg → Prop} {r : V → Hp → (It → Hp → Prop) → Prop} (hs : SrcAt X f P r) {σ : L2.St} {H : Hp} {R : It → Hp → Prop} {ρ : Nat → Addr} {p : Sl} {s : Sg} (rel : Rel X.K X.mg ρ s H) (sr : SRel X.K X.mg ρ s H p σ)
    (hP : ∀ v s1, m φ p s = .ok v s1 → P v s1) (h : Post X.K X.mg (RRi X) W ρ s H σ (fun J H' => R J H') (mI f m φ p s)) : tIV (tE X.K X.mg W φ m) r σ H R := by
  have e : mI f m φ p s = (m φ p s).bind fun v s1 => (f v s1).bind (chk s) := by
    unfold mI
    cases m φ p s <;> rfl
  rw [e] at h
  exact tE_seq rel sr h fun v s1 ρ1 H1 u e1 n1 b1 r1 sr1 h1 => hs.run W ρ s H σ ρ1 s1 H1 v u R (hP v s1 e1) n1 b1 r1 h1
end
end Bi

end
section
set_option Elab.async false
set_option linter.all false
set_option autoImplicit false
set_option maxRecDepth 100000
set_option maxHeartbeats 1000000
/-! Bi14: the sources of walks. -/
namespace Bi
open PySem L2
section
variable {X : Cx} {W : WX} {φ : Phi} {T : Tab} {k : Nat} {m ma mb mc mo mi : ME} {ml : ML} {e a b c o i tg : Expr} {pos p1 : Pos} {x y z : Str} {st : Stmt} {sts : List Stmt}
theorem rri_plain {ρ : Nat → Addr} {s : Sg} {H : Hp} {it : Wk} {J : It} (hb : it.xs.all (PV.bd s.g.length) = true) (hu : it.unl = none) (go : ∃ G Y, WalkP X.K X.mg ρ s H it J G Y) : RRi X H ρ s it J := ⟨hb, fun n e => (by rw [hu] at e; cases e), go⟩
abbrev rTup (K : PySem.W.Frag) : V → Hp → (It → Hp → Prop) → Prop := fun x H1 R => ∃ a, x = .ref a ∧ (∃ xs, SqT K H1 a xs) ∧ R (Itt K a) H1
abbrev rLst (K : PySem.W.Frag) : V → Hp → (It → Hp → Prop) → Prop := fun x H1 R => ∃ a, x = .ref a ∧ (∃ xs, SqL K H1 a xs) ∧ R (Itl K a) H1
abbrev rStr : V → Hp → (It → Hp → Prop) → Prop := fun v H1 R => ∃ x, v = .str x ∧ R (Its x) H1
/-- a dict that is locked, or is to be -/
abbrev rLk (X : Cx) (J : Addr → Obj → List (Key × V) → It) : V → Hp → (It → Hp → Prop) → Prop := fun x H1 R =>
  (∃ d o kvs, x = .ref d ∧ H1 d = some (.frz o (.dK kvs)) ∧ R (J d o kvs) H1) ∨ ∃ d u, H1 d = some u ∧ Mut (some u) ∧ ((∀ o' u', X.H_0 d ≠ some (.frz o' u')) → ∀ od, ∃ d' o kvs, x = .ref d' ∧ (upd H1 d (.frz od u)) d' = some (.frz o (.dK kvs)) ∧ R (J d' o kvs) (upd H1 d (.frz od u)))
theorem src_tup : SrcAt X vIter (fun v _ => ∃ xs, v = .tup xs) (rTup X.K) where
  run := fun W ρ0 s0 H0 σ ρ s H v u R hp n0 b r h => by
    obtain ⟨xs, rfl⟩ := hp
    obtain ⟨a, us, rfl, q, rs⟩ := RV.tup_iff.mp r
    rw [bd_tup] at b
    exact ⟨a, rfl, ⟨us, q⟩, h ρ H _ (Nx.refl n0.rel) (rri_plain b rfl (walkp_tup q rs b))⟩
theorem src_str : SrcAt X vIter (fun v _ => ∃ z, v = .str z) rStr where
  run := fun W ρ0 s0 H0 σ ρ s H v u R hp n0 b r h => by
    obtain ⟨z, rfl⟩ := hp
    cases r
    exact ⟨z, rfl, h ρ H _ (Nx.refl n0.rel) (rri_plain (chars_bd _ z) rfl (walkp_str z))⟩
def isLst (v : PV) (s : Sg) : Prop := (∃ xs, v = .lsq xs) ∨ ∃ n xs, v = .ref n ∧ s.g[n]? = some (.lst xs)
theorem src_lst : SrcAt X vIter isLst (rLst X.K) where
  run := fun W ρ0 s0 H0 σ ρ s H v u R hp n0 b r h => by
    rcases hp with ⟨xs, rfl⟩ | ⟨n, xs, rfl, e⟩
    · obtain ⟨a, us, rfl, q, rs⟩ := RV.lsq_iff.mp r
      rw [bd_lsq] at b
      exact ⟨a, rfl, ⟨us, q.sq⟩, h ρ H _ (Nx.refl n0.rel) (rri_plain b rfl (walkp_lsq q rs b))⟩
    · cases r
      obtain ⟨us, q, rs⟩ := n0.rel.cell n _ e
      have ev : vIter (.ref n) s = .ok ⟨xs, [(n, .lst xs)], none⟩ s := by
        unfold vIter
        simp only [e]
      rw [ev] at h
      exact ⟨ρ n, rfl, ⟨us, SqL.of q⟩, h ρ H _ (Nx.refl n0.rel) (rri_plain (lst_bd n0.rel e) rfl (walkp_lst n0.rel e))⟩
def isDic (v : PV) (s : Sg) : Prop := ∃ n kvs b, v = .ref n ∧ s.g[n]? = some (.dic kvs b)
/-- what a walk over a dict says -/
def vDicI (g : List (Key × PV) → List PV) (v : PV) (s : Sg) : R Wk := match v with
  | .ref n => (match s.g[n]? with
    | some (.dic kvs false) => .ok ⟨g kvs, [(n, .dic kvs true)], some n⟩ (s.lk n kvs true)
    | some (.dic kvs true) => .ok ⟨g kvs, [(n, .dic kvs true)], none⟩ s
    | _ => .bad)
  | _ => .bad
theorem vDicI_gd (g : List (Key × PV) → List PV) (v : PV) (s : Sg) : GdR s (vDicI g v s) := by
  unfold vDicI
  split
  · split
    · rename_i e
      exact Gd.lk e
    · exact Gd.refl _
    · trivial
  · trivial
theorem dic_run {g : List (Key × PV) → List PV} {J : Addr → Obj → List (Key × V) → It} (hg : ∀ (n : Nat) (kvs : List (Key × PV)), (kvs.all fun kv => kv.2.bd n) = true → (g kvs).all (PV.bd n) = true)
    (hw : ∀ {ρ : Nat → Addr} {s : Sg} {H : Hp} {n : Nat} {kvs : List (Key × PV)} {o : Obj} {ws : List (Key × V)} {u : Option Nat}, Rel X.K X.mg ρ s H → s.g[n]? = some (.dic kvs true) → H (ρ n) = some (.frz o (.dK ws)) → RKs X.K X.mg H ρ kvs ws → ∃ G Y, WalkP X.K X.mg ρ s H ⟨g kvs, [(n, .dic kvs true)], u⟩ (J (ρ n) o ws) G Y) :
    SrcAt X (vDicI g) isDic (rLk X J) where
  run := fun W ρ0 s0 H0 σ ρ s H v u R hp n0 b r h => by
    obtain ⟨n, kvs, lk, rfl, e⟩ := hp
    cases r
    have hb := n0.rel.wf n _ e
    have hn : n < s.g.length := (List.getElem?_eq_some_iff.mp e).1
    cases lk with
    | true =>
      obtain ⟨o, ws, q, rs⟩ := n0.rel.cell n _ e
      have ev : vDicI g (.ref n) s = .ok ⟨g kvs, [(n, .dic kvs true)], none⟩ s := by
        unfold vDicI
        simp only [e]
      rw [ev] at h
      exact .inl ⟨ρ n, o, ws, rfl, q, h ρ H _ (Nx.refl n0.rel) (rri_plain (hg _ _ hb) rfl (hw n0.rel e q rs))⟩
    | false =>
      obtain ⟨ws, q, rs⟩ := n0.rel.cell n _ e
      refine .inr ⟨ρ n, .dK ws, q, trivial, fun hno od => ⟨ρ n, od, ws, rfl, upd_same, ?_⟩⟩
      have ev : vDicI g (.ref n) s = .ok ⟨g kvs, [(n, .dic kvs true)], some n⟩ (s.lk n kvs true) := by
        unfold vDicI
        simp only [e]
      rw [ev] at h
      have h : Post X.K X.mg (RRi X) W ρ s H σ (fun J H' => R J H') (chk s0 ⟨g kvs, [(n, .dic kvs true)], some n⟩ (s.lk n kvs true)) := h
      have nn := rel_lock (od := od) n0.rel e rs
      have e2 : (s.lk n kvs true).g[n]? = some (.dic kvs true) := by
        show (s.g.set n _)[n]? = _
        rw [List.getElem?_set_self hn]
      have hl : n < (s.lk n kvs true).g.length := (List.getElem?_eq_some_iff.mp e2).1
      have rs2 : RKs X.K X.mg (upd H (ρ n) (.frz od (.dK ws))) ρ kvs ws := RKs.mono nn.keep nn.agr rs hb
      have hchk : chk s0 ⟨g kvs, [(n, .dic kvs true)], some n⟩ (s.lk n kvs true) = (if lockd s0 n then .bad else .ok ⟨g kvs, [(n, .dic kvs true)], some n⟩ (s.lk n kvs true)) := rfl
      rw [hchk] at h
      by_cases hl0 : lockd s0 n = true
      · rw [if_pos hl0] at h
        exact h.elim
      · rw [if_neg hl0] at h
        refine h ρ _ _ nn ⟨?_, fun m em => ?_, hw nn.rel e2 upd_same rs2⟩
        · refine hg _ _ ?_
          exact List.all_eq_true.mpr fun x hx => bd_mono nn.len _ (List.all_eq_true.mp hb x hx)
        · cases em
          exact ⟨hl, hno⟩
theorem vIter_dic {v : PV} {s : Sg} (h : isDic v s) : vIter v s = vDicI keysP v s := by
  obtain ⟨n, kvs, b, rfl, e⟩ := h
  unfold vIter vDicI
  simp only [e]
  cases b <;> rfl
theorem src_keys : SrcAt X vIter isDic (rLk X Itk) where
  run := fun W ρ0 s0 H0 σ ρ s H v u R hp n0 b r h => by
    rw [vIter_dic hp] at h
    exact (dic_run (X := X) (g := keysP) (J := Itk) (fun n kvs _ => keysP_bd n kvs) fun rel e eH r => walkp_keys rel e eH r).run W ρ0 s0 H0 σ ρ s H v u R hp n0 b r h
theorem valsP_bd (n : Nat) (kvs : List (Key × PV)) (h : (kvs.all fun kv => kv.2.bd n) = true) : (valsP kvs).all (PV.bd n) = true := List.all_eq_true.mpr fun x hx => by
  obtain ⟨q, hq, rfl⟩ := List.mem_map.mp hx
  exact List.all_eq_true.mp h q hq
theorem itemsP_bd (n : Nat) (kvs : List (Key × PV)) (h : (kvs.all fun kv => kv.2.bd n) = true) : (itemsP kvs).all (PV.bd n) = true := List.all_eq_true.mpr fun x hx => by
  obtain ⟨q, hq, rfl⟩ := List.mem_map.mp hx
  rw [bd_tup]
  have := List.all_eq_true.mp h q hq
  simp [kPV_bd, this]
theorem src_vals : SrcAt X (vDicI valsP) isDic (rLk X Itd) := dic_run valsP_bd fun rel e eH r => walkp_vals rel e eH r
theorem src_items : SrcAt X (vDicI itemsP) isDic (rLk X Iti) := dic_run itemsP_bd fun rel e eH r => walkp_items rel e eH r
/-- the lock, where a walk's rule asks it -/
theorem pi_of_lk {J : Addr → Obj → List (Key × V) → It} (he : PE X e (tE X.K X.mg W φ m)) (hp : ∀ {te : TE}, PE X e te → PI X tg o (fun σ H R => te σ H fun x H1 => ∃ d o kvs, x = .ref d ∧ H1 d = some (.frz o (.dK kvs)) ∧ R (J d o kvs) H1)) :
    PI X tg o (tIV (tE X.K X.mg W φ m) (rLk X J)) := PI.imp (hp (pe_lk he)) fun σ H R h => by
  obtain ⟨ρ, p, s, rel, sr, h⟩ := h
  refine ⟨ρ, p, s, rel, sr, ?_⟩
  cases e1 : m φ p s with
  | ok v s1 => rw [e1] at h; exact h
  | err C v s1 => rw [e1] at h; exact h
  | bad => rw [e1] at h; exact h
theorem pe_up {te : TE} (he : PE X e te) : PE X e (fun σ H Q => ∃ Q', te σ H Q' ∧ ∀ v H', Q' v H' → Q v H') :=
  ⟨fun pins s σ H Q I hw => by
    obtain ⟨Q', h, k⟩ := hw
    exact thn (he.run pins s σ H Q' I h) fun v s1 ⟨x, H1, I1, r, q⟩ => ⟨x, H1, I1, r, k _ _ q⟩⟩
theorem pi_keysL {te : TE} (he : PE X e te) : PI X tg e (fun σ H R => te σ H fun x H1 => ∃ d o kvs, x = .ref d ∧ H1 d = some (.frz o (.dK kvs)) ∧ R (Itk d o kvs) H1) :=
  PI.imp (pi_keys (pe_up he)) fun σ H R q => ⟨_, q, fun v H' ⟨d, o, kvs, h1, h2, h3⟩ => ⟨d, o, h1, .inl ⟨kvs, h2, h3⟩⟩⟩
/-- a list, a tuple, a text, a dict (its keys), as told at the time -/
theorem sim_seqI (h : Sim X W φ m e) : SimI X W φ (mI vIter m) tg e := by
  refine ⟨PI.imp (PI.or (PI.or (pi_tup h.pe) (pi_list h.pe)) (PI.or (pi_str h.pe) (pi_of_lk (J := Itk) h.pe fun he => pi_keysL he))) fun σ H R q => ?_, mI_gd h.gd vIter_gd, mI_nl⟩
  · obtain ⟨ρ, p, s, rel, sr, q⟩ := q
    have bad0 : mI vIter m φ p s ≠ .bad := fun z => by rw [z] at q; exact q
    cases e1 : m φ p s with
    | bad =>
      have z : mI vIter m φ p s = .bad := by unfold mI; rw [e1]; rfl
      exact absurd z bad0
    | err C v s1 => exact .inl (.inl (tI_at (src_tup (X := X)) rel sr (fun v s1 e2 => by rw [e1] at e2; cases e2) q))
    | ok v s1 =>
      have z : mI vIter m φ p s = (vIter v s1).bind (chk s) := by unfold mI; rw [e1]; rfl
      cases v with
      | tup xs => exact .inl (.inl (tI_at (src_tup (X := X)) rel sr (fun v s2 e2 => by rw [e1] at e2; cases e2; exact ⟨_, rfl⟩) q))
      | lsq xs => exact .inl (.inr (tI_at (src_lst (X := X)) rel sr (fun v s2 e2 => by rw [e1] at e2; cases e2; exact .inl ⟨_, rfl⟩) q))
      | str xs => exact .inr (.inl (tI_at (src_str (X := X)) rel sr (fun v s2 e2 => by rw [e1] at e2; cases e2; exact ⟨_, rfl⟩) q))
      | ref n =>
        cases e3 : s1.g[n]? with
        | none =>
          refine absurd ?_ bad0
          rw [z]
          unfold vIter
          simp only [e3]
          rfl
        | some ob =>
          cases ob with
          | lst xs => exact .inl (.inr (tI_at (src_lst (X := X)) rel sr (fun v s2 e2 => by rw [e1] at e2; cases e2; exact .inr ⟨_, _, rfl, e3⟩) q))
          | dic kvs lk => exact .inr (.inr (tI_at (src_keys (X := X)) rel sr (fun v s2 e2 => by rw [e1] at e2; cases e2; exact ⟨_, _, _, rfl, e3⟩) q))
          | ins C fs =>
            refine absurd ?_ bad0
            rw [z]
            unfold vIter
            simp only [e3]
            rfl
      | _ => exact absurd (by rw [z]; rfl) bad0
/-- d.values(), d.items() -/
theorem isDic_of {f : List (Key × PV) → List PV} {p : Sl} {s : Sg} (h : mI (vDicI f) m φ p s ≠ .bad) : ∀ v s1, m φ p s = .ok v s1 → isDic v s1 := fun v s1 e => by
  have z : mI (vDicI f) m φ p s = (vDicI f v s1).bind (chk s) := by unfold mI; rw [e]; rfl
  rw [z] at h
  unfold vDicI at h
  cases v with
  | ref n =>
    simp only at h
    cases e3 : s1.g[n]? with
    | none => rw [e3] at h; exact absurd rfl h
    | some ob =>
      rw [e3] at h
      cases ob with
      | dic kvs lk => exact ⟨n, kvs, lk, rfl, e3⟩
      | _ => exact absurd rfl h
  | _ => exact absurd rfl h
theorem sim_valsI {apos cpos : Pos} (h : Sim X W φ m e) (hbase : attributeBase e "values" X.env (eval e X.env) = eval e X.env) (hline : (apos.endLine == cpos.line) = true) : SimI X W φ (mI (vDicI valsP) m) tg (.Call (.Attribute e "values" apos) [] [] cpos) := by
  refine ⟨PI.imp (pi_of_lk (J := Itd) h.pe fun he => pi_values he hbase hline) fun σ H R q => ?_, mI_gd h.gd (vDicI_gd _), mI_nl⟩
  obtain ⟨ρ, p, s, rel, sr, q⟩ := q
  exact tI_at (src_vals (X := X)) rel sr (isDic_of (post_nobad q)) q
theorem sim_itemsI {elts : List Expr} {kk : Nat} {tpos apos cpos : Pos} (h : Sim X W φ m e) (hbase : attributeBase e "items" X.env (eval e X.env) = eval e X.env) (hline : (apos.endLine == cpos.line) = true) : SimI X W φ (mI (vDicI itemsP) m) (.Tuple elts kk tpos) (.Call (.Attribute e "items" apos) [] [] cpos) := by
  refine ⟨PI.imp (pi_of_lk (J := Iti) h.pe fun he => pi_items he hbase hline) fun σ H R q => ?_, mI_gd h.gd (vDicI_gd _), mI_nl⟩
  obtain ⟨ρ, p, s, rel, sr, q⟩ := q
  exact tI_at (src_items (X := X)) rel sr (isDic_of (post_nobad q)) q
/-! ### range -/
@[irreducible] def smallI (i : Int) : Bool := decide (-(2 ^ 62) ≤ i) && decide (i < 2 ^ 62)
theorem smallI_of {i : Int} (h : smallI i = true) : (decide (-(2 ^ 62) ≤ i) && decide (i < 2 ^ 62)) = true := by unfold smallI at h; exact h
def rngP (lo : Int) (n : Nat) : List PV := (List.range n).map fun (i : Nat) => PV.int (lo + i)
theorem rngP_bd (n : Nat) (lo : Int) (k : Nat) : (rngP lo k).all (PV.bd n) = true := List.all_eq_true.mpr fun x hx => by
  obtain ⟨q, hq, rfl⟩ := List.mem_map.mp hx
  rw [PV.bd]
theorem walkp_rng {ρ : Nat → Addr} {s : Sg} {H : Hp} (lo : Int) (n : Nat) : ∃ G Y, WalkP X.K X.mg ρ s H ⟨rngP lo n, [], none⟩ (L2.Itr lo n) G Y := by
  have w := walk_range (lo := lo) (n := n)
  have hl : (rngP lo n).length = n := by unfold rngP; simp
  rw [← hl] at w
  refine ⟨_, _, (by rw [hl] at w ⊢; exact w : Walk (L2.Itr lo n) (rngP lo n).length (fun _ => True) (YFn fun i => .int (lo + i))), fun _ _ _ _ _ => trivial, fun i ρ2 s2 H2 x H3 nn _ hi y => ?_⟩
  obtain ⟨e1, e2⟩ := y
  subst e1
  have hi : i < (rngP lo n).length := hi
  rw [hl] at hi
  refine ⟨.int (lo + i), ?_, Nx.refl nn.rel, by rw [e2]; exact .int _⟩
  show (rngP lo n)[i]? = _
  unfold rngP
  rw [List.getElem?_map, List.getElem?_range hi]
  rfl
def vRng1 : List PV → Sg → R Wk
  | [.int j], s => if smallI j then .ok ⟨rngP 0 j.toNat, [], none⟩ s else .bad
  | _, _ => .bad
def vRng2 : List PV → Sg → R Wk
  | [.int i, .int j], s => if smallI i && smallI j then .ok ⟨rngP i (j - i).toNat, [], none⟩ s else .bad
  | _, _ => .bad
def mRng1 (ml : ML) : MI := fun φ p s => (ml φ p s).bind vRng1
def mRng2 (ml : ML) : MI := fun φ p s => (ml φ p s).bind vRng2
theorem vRng1_gd (v : List PV) (s : Sg) : GdR s (vRng1 v s) := by
  unfold vRng1
  split
  · split
    · exact Gd.refl _
    · trivial
  · trivial
theorem vRng2_gd (v : List PV) (s : Sg) : GdR s (vRng2 v s) := by
  unfold vRng2
  split
  · split
    · exact Gd.refl _
    · trivial
  · trivial
theorem vRng1_nl (v : List PV) (s : Sg) (it : Wk) (s1 : Sg) (h : vRng1 v s = .ok it s1) : it.unl = none := by
  unfold vRng1 at h
  split at h
  · split at h
    · cases h; rfl
    · cases h
  · cases h
theorem vRng2_nl (v : List PV) (s : Sg) (it : Wk) (s1 : Sg) (h : vRng2 v s = .ok it s1) : it.unl = none := by
  unfold vRng2 at h
  split at h
  · split at h
    · cases h; rfl
    · cases h
  · cases h
theorem sim_rng1 {p : Pos} (hg : Gl X "range") (hm : X.mg "range" = none) (ha : SimA X W φ ml [a]) (hs : starEach [a] X.env = [(false, eval a X.env)]) : SimI X W φ (mRng1 ml) tg (.Call (.Name "range" p) [a] [] pos) := by
  refine ⟨PI.imp (pi_range1 hg hm ha.pa hs) fun σ H R q => ?_, fun p s => (ha.gd p s).bind fun v s' _ => vRng1_gd v s', fun p s it s1 n h hu => nl_of vRng1_nl h hu⟩
  obtain ⟨ρ, p, s, rel, sr, q⟩ := q
  refine tA_seq rel sr q fun vs s1 ρ1 H1 us e1 n1 b1 r1 sr1 h1 => ?_
  unfold vRng1 at h1
  split at h1
  · rename_i j
    cases r1 with
    | cons r1 rs =>
      cases rs
      cases r1
      by_cases c : smallI j = true
      · rw [if_pos c] at h1
        obtain ⟨c1, c2⟩ := Bool.and_eq_true_iff.mp (smallI_of c)
        exact ⟨j, rfl, of_decide_eq_true c1, of_decide_eq_true c2, h1 ρ1 H1 _ (Nx.refl n1.rel) (rri_plain (rngP_bd _ _ _) rfl (walkp_rng 0 _))⟩
      · rw [if_neg c] at h1; exact h1.elim
  · exact h1.elim
theorem sim_rng2 {p : Pos} (hg : Gl X "range") (hm : X.mg "range" = none) (ha : SimA X W φ ml [a, b]) (hs : starEach [a, b] X.env = [(false, eval a X.env), (false, eval b X.env)]) (hs2 : starEach [b] X.env = [(false, eval b X.env)]) : SimI X W φ (mRng2 ml) tg (.Call (.Name "range" p) [a, b] [] pos) := by
  refine ⟨PI.imp (pi_range2 hg hm ha.pa hs hs2) fun σ H R q => ?_, fun p s => (ha.gd p s).bind fun v s' _ => vRng2_gd v s', fun p s it s1 n h hu => nl_of vRng2_nl h hu⟩
  obtain ⟨ρ, p, s, rel, sr, q⟩ := q
  refine tA_seq rel sr q fun vs s1 ρ1 H1 us e1 n1 b1 r1 sr1 h1 => ?_
  unfold vRng2 at h1
  split at h1
  · rename_i i j
    cases r1 with
    | cons r1 rs => cases rs with
      | cons r2 rs =>
        cases rs
        cases r1
        cases r2
        by_cases c : (smallI i && smallI j) = true
        · rw [if_pos c] at h1
          obtain ⟨c1, c2⟩ := Bool.and_eq_true_iff.mp c
          obtain ⟨c3, c4⟩ := Bool.and_eq_true_iff.mp (smallI_of c1)
          obtain ⟨c5, c6⟩ := Bool.and_eq_true_iff.mp (smallI_of c2)
          exact ⟨i, j, rfl, ⟨of_decide_eq_true c3, of_decide_eq_true c4, of_decide_eq_true c5, of_decide_eq_true c6⟩, h1 ρ1 H1 _ (Nx.refl n1.rel) (rri_plain (rngP_bd _ _ _) rfl (walkp_rng i _))⟩
        · rw [if_neg c] at h1; exact h1.elim
  · exact h1.elim
end
end Bi

end
section
set_option Elab.async false
set_option linter.all false
set_option autoImplicit false
set_option maxRecDepth 100000
set_option maxHeartbeats 1000000
/-! Bi15: enumerate, from any number, of lists and tuples; zip. -/
namespace Bi
open PySem L2 PySem.Spec PyProof.Rows
/-- a tuple, or a list -/
def SqA (K : PySem.W.Frag) : Bool → Hp → Addr → List V → Prop
  | true => SqT K
  | false => SqL K
def ItA : Bool → Heap → Addr → Addr → Nat → Prop
  | true => fun h it a i => h.IsTupleIter it a i
  | false => fun h it a i => h.IsListIter it a i
def IsA : Bool → Heap → Addr → Array Value → Prop
  | true => fun h a its => h.IsTuple a its
  | false => fun h a its => h.IsList a its
theorem drawsA {prog : Program} {w : World} {A : Around} (tp : Bool) (hh : A.handled = none) (it a : Addr) (hne : a ≠ it) (items : Array Value) : Draws prog w A it [it, a] items.size (fun i v => items[i]? = some v) (fun i h => ItA tp h it a i ∧ IsA tp h a items) := by
  cases tp with
  | true => exact Draws.tuple hh it a hne items
  | false => exact Draws.list hh it a hne items
theorem invA {X : Cx} {pins : List (Addr × Obj)} {σ : L2.St} {H : Hp} {s : Shared} {tp : Bool} {a : Addr} {xs : List V} (I : L2.Inv X pins σ H s) (h : SqA X.K tp H a xs) : ∃ its : List Value, Vals xs its ∧ IsA tp s.heap a its.toArray ∧ a < s.heap.objs.size := by
  cases tp with
  | true =>
    obtain ⟨its, rv, p, _⟩ := I.tuple h
    obtain ⟨o, ho, _⟩ := id p
    exact ⟨its, rv, p, Heap.lt_size ho⟩
  | false =>
    obtain ⟨its, rv, p, _⟩ := I.list h
    exact ⟨its, rv, p.isList, p.lt⟩
theorem injA {X : Cx} {pins : List (Addr × Obj)} {σ : L2.St} {H : Hp} {s : Shared} {tp : Bool} {a : Addr} {xs ys : List V} (I : L2.Inv X pins σ H s) (h : SqA X.K tp H a xs) (h' : SqA X.K tp H a ys) : xs = ys := by
  cases tp with
  | true => exact I.tuple_inj h h'
  | false => exact I.list_inj h h'
theorem itA_ob {tp : Bool} {h : Heap} {it a : Addr} {i : Nat} (x : ItA tp h it a i) : ∃ o, h.get? it = some o ∧ ∀ v, o.data ≠ .cell v := by
  cases tp with
  | true => obtain ⟨o, e, c, d⟩ := x; exact ⟨o, e, fun v z => by rw [d] at z; cases z⟩
  | false => obtain ⟨o, e, c, d⟩ := x; exact ⟨o, e, fun v z => by rw [d] at z; cases z⟩
theorem itA_at {tp : Bool} {h h' : Heap} {it a : Addr} {i : Nat} (x : ItA tp h it a i) (k : ∀ o, h.get? it = some o → h'.get? it = some o) : ItA tp h' it a i := by
  cases tp with
  | true => exact (show h.IsTupleIter it a i from x).at k
  | false => exact (show h.IsListIter it a i from x).at k
/-- the sequence at a, each item in a new pair with its number from lo -/
def IteG (K : PySem.W.Frag) (tp : Bool) (lo : Int) (a : Addr) : It :=
  ⟨fun i H => ∃ (xs : List V) (x : V), SqA K tp H a xs ∧ xs[i]? = some x, fun i H v H' => ∃ T x, v = .ref T ∧ H T = none ∧ H' = upd H T (.tup [.int (lo + (i : Nat)), x]) ∧ ∀ xs, SqA K tp H a xs → xs[i]? = some x,
    fun i H => ∃ xs : List V, SqA K tp H a xs ∧ xs.length = i⟩
set_option maxHeartbeats 2000000 in
theorem turn_enumG {P : Program} {w : World} {K : PySem.W.Frag} {elts : List Expr} {kk : Nat} {tpos : Pos} (tp : Bool) (lo : Int) (a e it : Addr) :
    Turn P w K (.Tuple elts kk tpos) (IteG K tp lo a) [e, it] e (fun i h => (∃ old, IsEnum h e it (lo + ((i : Nat) : Int)) old) ∧ ItA tp h it a i ∧ e ≠ it ∧ a ≠ e ∧ a ≠ it) where
  mem := by simp
  obj := fun i h st b hb => by
    obtain ⟨⟨old, he⟩, hi, _⟩ := st
    have e' : b = e ∨ b = it := by simpa using hb
    rcases e' with z | z
    · rw [z]; exact ⟨_, he, fun v q => nomatch q⟩
    · rw [z]; exact itA_ob hi
  keep := fun i h h' st k => let ⟨⟨old, he⟩, hi, hne⟩ := st; ⟨⟨old, k e (by simp) _ he⟩, itA_at hi fun o q => k it (by simp) o q, hne⟩
  item := by
    intro X hP hw hK hc i pins s σ H E I hf st hg
    subst hP hw hK
    obtain ⟨⟨old, he⟩, hit, hne, hae, hai⟩ := st
    obtain ⟨xs, x, hq, hx⟩ := hg
    obtain ⟨its, rv, p, hz⟩ := invA I hq
    obtain ⟨u, hu, ru⟩ := rv.get hx
    have hel : e < s.heap.objs.size := Heap.lt_size he
    have hil : it < s.heap.objs.size := by obtain ⟨_, q, _⟩ := itA_ob hit; exact Heap.lt_size q
    have hi : i < its.toArray.size := by
      have := (List.getElem?_eq_some_iff.mp hu).1
      simpa using this
    have hh : X.A.in1.handled = none := I.ok.hd hc
    have G := GoesN.enumFrom (prog := X.prog) (w := X.w) (A := X.A) (elts := elts) (x1 := kk) (pos := tpos) lo (drawsA (prog := X.prog) (w := X.w) tp hh it a hai its.toArray) e hne (by simp [hne, Ne.symm hae]) (by simp)
    refine G.goes i s _ E hi ⟨⟨old, he⟩, hit, p⟩ fun v h' tk hY st' hk htk => ?_
    obtain ⟨T, t, y, rfl, hT, hy, hIT⟩ := hY
    have ey : y = u := by
      have q : its.toArray[i]? = some u := by simpa using hu
      rw [q] at hy
      exact (Option.some.inj hy).symm
    subst ey
    obtain ⟨oT, hoT, cT, nT, dT⟩ := hIT
    have new : ObjOk X.prog X.w (upd H T (.tup [.int (lo + (i : Nat)), x])) h' T (.tup [.int (lo + (i : Nat)), x]) :=
      ⟨by show 2 ≤ sizeLine; decide, [.int (lo + (i : Nat)) t, y], .cons ⟨_, rfl⟩ (.cons ru .nil), ⟨oT, hoT, cT, nT, dT⟩⟩
    have I1 : L2.Inv X pins σ (upd H T (.tup [.int (lo + (i : Nat)), x])) { s with heap := h', toks := tk } := I.turnedNew (ch := [e, it]) (fun b ob hb q => hk b ob hb q) hf hT new
    refine ⟨.ref T, _, I1, rfl, ⟨_, x, rfl, I.hok.fresh hT, rfl, fun ys hy => by rw [injA I hy hq]; exact hx⟩, ⟨?_, st'.2.1, hne, hae, hai⟩, fun b hb => ?_⟩
    · exact st'.1
    · have hb' : b < s.heap.objs.size := by
        have e' : b = e ∨ b = it := by simpa using hb
        rcases e' with z | z
        · rw [z]; exact hel
        · rw [z]; exact hil
      rw [upd_ne (Nat.ne_of_lt (Nat.lt_of_lt_of_le hb' hT))]
      exact (hf b hb).1
  done := by
    intro X hP hw hK hc i pins s σ H E I hf st hg
    subst hP hw hK
    obtain ⟨⟨old, he⟩, hit, hne, hae, hai⟩ := st
    obtain ⟨xs, hq, hx⟩ := hg
    obtain ⟨its, rv, p, hz⟩ := invA I hq
    have hh : X.A.in1.handled = none := I.ok.hd hc
    have hl : its.toArray.size = i := by rw [← hx, rv.length]; simp
    have G := GoesN.enumFrom (prog := X.prog) (w := X.w) (A := X.A) (elts := elts) (x1 := kk) (pos := tpos) lo (drawsA (prog := X.prog) (w := X.w) tp hh it a hai its.toArray) e hne (by simp [hne, Ne.symm hae]) (by simp)
    refine G.stops s _ E (by rw [hl]; exact ⟨⟨old, he⟩, hit, p⟩) fun h' tk hk htk => ?_
    exact I.turnedL (ch := [e, it]) (fun b o hb q => hk b o hb q) hf
  self := fun A i s Q E st h => let ⟨⟨_, he⟩, _⟩ := st; wpAny_pyIter_enum he h
/-- the iterator that iter makes of it -/
def itOb : Bool → Addr → Obj
  | true => fun a => { cls := .type "tuple_iterator", data := .fields #[.ref a, .int 0 0] }
  | false => fun a => { cls := .type "list_iterator", data := .fields #[.ref a, .int 0 0] }
theorem beginsA (tp : Bool) (a : Addr) (items : Array Value) : Begins (.ref a) (itOb tp a) (fun h => IsA tp h a items) := by
  cases tp with
  | true => exact begins_tuple a items
  | false => exact begins_list a items
theorem itA_of {tp : Bool} {h : Heap} {it a : Addr} (e : h.get? it = some (itOb tp a)) : ItA tp h it a 0 := by
  cases tp with
  | true => exact ⟨_, e, rfl, rfl⟩
  | false => exact ⟨_, e, rfl, rfl⟩
theorem isA_keeps {tp : Bool} {h h' : Heap} {a : Addr} {items : Array Value} (x : IsA tp h a items) (k : ∀ b o, h.get? b = some o → h'.get? b = some o) : IsA tp h' a items := by
  cases tp with
  | true => exact (show h.IsTuple a items from x).at fun o e => k a o e
  | false => exact (show h.IsList a items from x).at fun o e => k a o e
set_option maxHeartbeats 2000000 in
theorem meets_enum_new1 {v : Value} {o : Obj} {H : Heap → Prop} (B : Begins v o H) :
    Meets (Builtin.«enumerate.__new__» ⟨[.type "enumerate", v], []⟩) (fun _ R s => H s.heap ∧
      R (.ok (.ret (.ref (s.heap.push o).objs.size))) { s with heap := (s.heap.push o).push { cls := .type "enumerate", data := .fields #[.none, .bool false, .ref s.heap.objs.size, rawInt 0, .none, .none] } }) :=
  .of_wp fun prog w A R s h => by
    obtain ⟨hp, g, d, tk, os⟩ := s; obtain ⟨h1, h⟩ := h
    have hsub := sub_enumerate
    have q1 : ∀ {A' : Around} {E : Value → Shared → Prop} {Q : Value → Shared → Prop}, Q (.ref hp.objs.size) ⟨hp.push o, g, d, tk, os⟩ → wpAny (model prog w) A' (pyIter v) Q E ⟨hp, g, d, tk, os⟩ :=
      fun q => B.iter prog w _ _ ⟨hp, g, d, tk, os⟩ _ h1 q
    wp_walk using q1
    refine wpAny_stack_any fun st => wpAny_pure ?_
    split
    · rename_i c _ _ _ _ _
      cases (c == Value.type "enumerate")
      · wp_walk using q1
        exact ⟨_, rfl, h⟩
      · wp_walk using q1
        exact ⟨_, rfl, h⟩
    · wp_walk using q1
      exact ⟨_, rfl, h⟩
theorem enum_begins1 {prog : Program} {w : World} {A : Around} {E : Value → Shared → Prop} {s : Shared} {v : Value} {o : Obj} {H : Heap → Prop} {Q : Value → Shared → Prop} (B : Begins v o H) (h1 : H s.heap)
    (h : ∀ h', IsEnum h' (s.heap.objs.size + 1) s.heap.objs.size 0 .none → h'.get? s.heap.objs.size = some o → h'.objs.size = s.heap.objs.size + 2 →
      (∀ b o, s.heap.get? b = some o → h'.get? b = some o) → Q (.ref (s.heap.objs.size + 1)) { s with heap := h' }) :
    wpAny (model prog w) A (call (.type "enumerate") [v]) Q E s := by
  refine callType_new F.called_enumerate (by decide) (F.typeCall_enumerate_1 _) (F.newCall_enumerate_1 _) (fun obj => F.args_object_init_2 obj _) F.entry_enumerate_new (meets_enum_new1 B) ⟨h1, ?_⟩
  have hz : (s.heap.push o).objs.size = s.heap.objs.size + 1 := Heap.size_push ..
  show _ ∧ _
  rw [hz]
  have he : IsEnum ((s.heap.push o).push { cls := .type "enumerate", data := .fields #[.none, .bool false, .ref s.heap.objs.size, rawInt 0, .none, .none] }) (s.heap.objs.size + 1) s.heap.objs.size 0 .none := by
    have := Heap.get?_push_size (s.heap.push o) (o := { cls := .type "enumerate", data := .fields #[.none, .bool false, .ref s.heap.objs.size, rawInt 0, .none, .none] }) rfl
    rw [hz] at this; exact this
  refine ⟨⟨_, he, rfl⟩, h _ he (Heap.get?_push_of_some _ (Heap.get?_push_size _ B.free)) (by rw [Heap.size_push, hz]) fun b o x => Heap.get?_push_of_some _ (Heap.get?_push_of_some _ x)⟩
def iEnumG (K : PySem.W.Frag) (ta : TA) : TI := fun σ H R => ta σ H fun vs H1 => ∃ tp a xs, vs = [.ref a] ∧ SqA K tp H1 a xs ∧ R (IteG K tp 0 a) H1
def iEnumK (K : PySem.W.Frag) (ta : TA) : TI := fun σ H R => ta σ H fun vs H1 => ∃ tp a xs k, vs = [.ref a, .int k] ∧ SqA K tp H1 a xs ∧ -(2 ^ 63) ≤ k ∧ k < 2 ^ 63 ∧ R (IteG K tp k a) H1
section
variable {X : Cx} {e e2 : Expr} {ta : TA} {p pos tpos : Pos} {elts : List Expr} {kk : Nat}
theorem enum_fin {pins : List (Addr × Obj)} {σ : L2.St} {H1 : Hp} {s1 : Shared} {R : It → Hp → Prop} {tp : Bool} {a : Addr} {k : Int} {h' : Heap} (I1 : L2.Inv X pins σ H1 s1) (ha : a < s1.heap.objs.size) (he : IsEnum h' (s1.heap.objs.size + 1) s1.heap.objs.size k .none) (ho : h'.get? s1.heap.objs.size = some (itOb tp a))
    (hk : ∀ b o, s1.heap.get? b = some o → h'.get? b = some o) (q : R (IteG X.K tp k a) H1) : wpAny (model X.prog X.w) X.A (pyIter (.ref (s1.heap.objs.size + 1))) (PIE X pins σ (.Tuple elts kk tpos) R) X.xe { s1 with heap := h' } := by
  refine wpAny_pyIter_enum he ?_
  have I2 : L2.Inv X pins σ H1 { s1 with heap := h' } := I1.kept (t' := s1.toks) hk
  have he0 : IsEnum h' (s1.heap.objs.size + 1) s1.heap.objs.size (k + ((0 : Nat) : Int)) .none := by
    have : k + ((0 : Nat) : Int) = k := by simp
    rw [this]; exact he
  refine ⟨s1.heap.objs.size + 1, [s1.heap.objs.size + 1, s1.heap.objs.size], _, _, H1, rfl, I2, turn_enumG tp k a (s1.heap.objs.size + 1) s1.heap.objs.size, ⟨⟨.none, he0⟩, itA_of ho, Nat.succ_ne_self _, Nat.ne_of_lt (Nat.lt_succ_of_lt ha), Nat.ne_of_lt ha⟩, fun b hb => ?_, q⟩
  have e' : b = s1.heap.objs.size + 1 ∨ b = s1.heap.objs.size := by simpa using hb
  have hle : s1.heap.objs.size ≤ b := by
    rcases e' with z | z
    · rw [z]; exact Nat.le_add_right _ _
    · rw [z]; exact Nat.le_refl _
  exact I1.fpOk hle (I1.hok.fresh hle)
theorem pi_enumG (hg : Gl X "enumerate") (hm : X.mg "enumerate" = none) (ha : PA X [e] ta) (hs : starEach [e] X.env = [(false, eval e X.env)]) : PI X (.Tuple elts kk tpos) (.Call (.Name "enumerate" p) [e] [] pos) (iEnumG X.K ta) := by
  refine ⟨fun pins s σ H R I h => ?_⟩
  refine Call_ (ld_blt I hg hm PyProof.Rows.boot_enumerate (PyProof.Rows.callWith_type1 (thn (ha.run pos pins s σ H _ I h) fun us s1 ⟨vs, H1, I1, r1, q1⟩ => ?_) hs rfl))
  obtain ⟨tp, a, xs, ex, hq, q⟩ := q1
  subst ex
  cases r1 with
  | cons r rr =>
    cases rr
    cases r
    obtain ⟨its, rv, p', hz⟩ := invA I1 hq
    exact enum_begins1 (beginsA tp a its.toArray) p' fun h' he ho hsz hk => enum_fin I1 hz he ho hk q
theorem pi_enumK (hg : Gl X "enumerate") (hm : X.mg "enumerate" = none) (ha : PA X [e, e2] ta) (hs : starEach [e, e2] X.env = (false, eval e X.env) :: starEach [e2] X.env) (hpl : (backTo pos (starEach [e2] X.env)).any (·.1) = false) : PI X (.Tuple elts kk tpos) (.Call (.Name "enumerate" p) [e, e2] [] pos) (iEnumK X.K ta) := by
  refine ⟨fun pins s σ H R I h => ?_⟩
  refine Call_ (ld_blt I hg hm PyProof.Rows.boot_enumerate (PyProof.Rows.callWith_type1 (thn (ha.run pos pins s σ H _ I h) fun us s1 ⟨vs, H1, I1, r1, q1⟩ => ?_) hs hpl))
  obtain ⟨tp, a, xs, k, ex, hq, k1, k2, q⟩ := q1
  subst ex
  cases r1 with
  | cons r rr => cases rr with
    | cons r2 rr =>
      cases rr
      cases r
      obtain ⟨t, rfl⟩ := r2
      obtain ⟨its, rv, p', hz⟩ := invA I1 hq
      exact enum_begins (beginsA tp a its.toArray) p' k1 k2 fun h' he ho hsz hk => enum_fin I1 hz he ho hk q
end
/-! ### zip -/
def ItzG (K : PySem.W.Frag) (t1 t2 : Bool) (a b : Addr) : It :=
  ⟨fun i H => ∃ (xs ys : List V) (x y : V), SqA K t1 H a xs ∧ SqA K t2 H b ys ∧ xs[i]? = some x ∧ ys[i]? = some y,
    fun i H v H' => ∃ T x y, v = .ref T ∧ H T = none ∧ H' = upd H T (.tup [x, y]) ∧ (∀ xs, SqA K t1 H a xs → xs[i]? = some x) ∧ ∀ ys, SqA K t2 H b ys → ys[i]? = some y,
    fun i H => ∃ xs ys : List V, SqA K t1 H a xs ∧ SqA K t2 H b ys ∧ min xs.length ys.length = i⟩
theorem isTup2_at {h h' : Heap} {T : Addr} {u v : Value} (x : IsTupOf2 h T u v) (k : ∀ o, h.get? T = some o → h'.get? T = some o) : IsTupOf2 h' T u v := k _ x
set_option maxHeartbeats 2000000 in
theorem turn_zipG {P : Program} {w : World} {K : PySem.W.Frag} {elts : List Expr} {kk : Nat} {tpos : Pos} (t1 t2 : Bool) (a b N : Addr) (ha : a < N) (hb : b < N) :
    Turn P w K (.Tuple elts kk tpos) (ItzG K t1 t2 a b) [N + 4, N + 2, N + 3, N, N + 1] (N + 4) (fun i h => IsZip h (N + 4) (N + 2) (N + 3) .none ∧ IsTupOf2 h (N + 2) (.ref N) (.ref (N + 1)) ∧ (∃ x y, IsTupOf2 h (N + 3) x y) ∧ ItA t1 h N a i ∧ ItA t2 h (N + 1) b i) where
  mem := by simp
  obj := fun i h st c hc => by
    obtain ⟨hz, hTI, ⟨x, y, hTO⟩, h1, h2⟩ := st
    have e' : c = N + 4 ∨ c = N + 2 ∨ c = N + 3 ∨ c = N ∨ c = N + 1 := by simpa using hc
    rcases e' with q | q | q | q | q
    · rw [q]; exact ⟨_, hz, fun v q => nomatch q⟩
    · rw [q]; exact ⟨_, hTI, fun v q => nomatch q⟩
    · rw [q]; exact ⟨_, hTO, fun v q => nomatch q⟩
    · rw [q]; exact itA_ob h1
    · rw [q]; exact itA_ob h2
  keep := fun i h h' st k => by
    obtain ⟨hz, hTI, ⟨x, y, hTO⟩, h1, h2⟩ := st
    exact ⟨k (N + 4) (by simp) _ hz, k (N + 2) (by simp) _ hTI, ⟨x, y, k (N + 3) (by simp) _ hTO⟩, itA_at h1 fun o q => k N (by simp) o q, itA_at h2 fun o q => k (N + 1) (by simp) o q⟩
  item := by
    intro X hP hw hK hc i pins s σ H E I hf st hg
    subst hP hw hK
    obtain ⟨hz, hTI, hTO, h1, h2⟩ := st
    obtain ⟨xs, ys, x, y, hqx, hqy, hx, hy⟩ := hg
    obtain ⟨its, rv, p, _⟩ := invA I hqx
    obtain ⟨its2, rv2, p2, _⟩ := invA I hqy
    obtain ⟨u, hu, ru⟩ := rv.get hx
    obtain ⟨u2, hu2, ru2⟩ := rv2.get hy
    have hzl : N + 4 < s.heap.objs.size := Heap.lt_size hz
    have hi1 : i < its.toArray.size := by simpa using (List.getElem?_eq_some_iff.mp hu).1
    have hi2 : i < its2.toArray.size := by simpa using (List.getElem?_eq_some_iff.mp hu2).1
    have hh : X.A.in1.handled = none := I.ok.hd hc
    have G := GoesN.zip2 (prog := X.prog) (w := X.w) (A := X.A) (elts := elts) (x1 := kk) (pos := tpos) (zip_sep2 (N := N) (fp1 := [a]) (fp2 := [b]) (by simpa using ha) (by simpa using hb))
      (drawsA (prog := X.prog) (w := X.w) t1 hh N a (Nat.ne_of_lt ha) its.toArray) (drawsA (prog := X.prog) (w := X.w) t2 hh (N + 1) b (Nat.ne_of_lt (Nat.lt_succ_of_lt hb)) its2.toArray)
    refine G.goes i s _ E (Nat.lt_min.mpr ⟨hi1, hi2⟩) ⟨hz, hTI, hTO, ⟨h1, p⟩, ⟨h2, p2⟩⟩ fun v h' tk hY st' hk htk => ?_
    obtain ⟨T, w1, w2, rfl, hT, hw1, hw2, hIT⟩ := hY
    have ew1 : w1 = u := by
      have q : its.toArray[i]? = some u := by simpa using hu
      rw [q] at hw1
      exact (Option.some.inj hw1).symm
    have ew2 : w2 = u2 := by
      have q : its2.toArray[i]? = some u2 := by simpa using hu2
      rw [q] at hw2
      exact (Option.some.inj hw2).symm
    subst ew1 ew2
    obtain ⟨oT, hoT, cT, nT, dT⟩ := hIT
    have new : ObjOk X.prog X.w (upd H T (.tup [x, y])) h' T (.tup [x, y]) := ⟨by show 2 ≤ sizeLine; decide, [w1, w2], .cons ru (.cons ru2 .nil), ⟨oT, hoT, cT, nT, dT⟩⟩
    have I1 : L2.Inv X pins σ (upd H T (.tup [x, y])) { s with heap := h', toks := tk } := I.turnedNew (ch := [N + 4, N + 2, N + 3, N, N + 1]) (fun c o hb q => hk c o (fun q' => hb (by
      have : c = N + 4 ∨ c = N + 3 ∨ c = N ∨ c = N + 1 := by simpa using q'
      rcases this with z | z | z | z <;> simp [z])) q) hf hT new
    refine ⟨.ref T, _, I1, rfl, ⟨_, x, y, rfl, I.hok.fresh hT, rfl, fun l hl => by rw [injA I hl hqx]; exact hx, fun l hl => by rw [injA I hl hqy]; exact hy⟩, ⟨st'.1, st'.2.1, st'.2.2.1, st'.2.2.2.1.1, st'.2.2.2.2.1⟩, fun c hcm => ?_⟩
    have hlt : c < s.heap.objs.size := by
      have e' : c = N + 4 ∨ c = N + 2 ∨ c = N + 3 ∨ c = N ∨ c = N + 1 := by simpa using hcm
      rcases e' with z | z | z | z | z
      · rw [z]; exact hzl
      · rw [z]; exact Nat.lt_of_le_of_lt (Nat.add_le_add_left (by decide : 2 ≤ 4) N) hzl
      · rw [z]; exact Nat.lt_of_le_of_lt (Nat.add_le_add_left (by decide : 3 ≤ 4) N) hzl
      · rw [z]; exact Nat.lt_of_le_of_lt (Nat.le_add_right N 4) hzl
      · rw [z]; exact Nat.lt_of_le_of_lt (Nat.add_le_add_left (by decide : 1 ≤ 4) N) hzl
    rw [upd_ne (Nat.ne_of_lt (Nat.lt_of_lt_of_le hlt hT))]
    exact (hf c hcm).1
  done := by
    intro X hP hw hK hc i pins s σ H E I hf st hg
    subst hP hw hK
    obtain ⟨hz, hTI, hTO, h1, h2⟩ := st
    obtain ⟨xs, ys, hqx, hqy, hend⟩ := hg
    obtain ⟨its, rv, p, _⟩ := invA I hqx
    obtain ⟨its2, rv2, p2, _⟩ := invA I hqy
    have hh : X.A.in1.handled = none := I.ok.hd hc
    have G := GoesN.zip2 (prog := X.prog) (w := X.w) (A := X.A) (elts := elts) (x1 := kk) (pos := tpos) (zip_sep2 (N := N) (fp1 := [a]) (fp2 := [b]) (by simpa using ha) (by simpa using hb))
      (drawsA (prog := X.prog) (w := X.w) t1 hh N a (Nat.ne_of_lt ha) its.toArray) (drawsA (prog := X.prog) (w := X.w) t2 hh (N + 1) b (Nat.ne_of_lt (Nat.lt_succ_of_lt hb)) its2.toArray)
    have hl : min its.toArray.size its2.toArray.size = i := by
      rw [← hend, rv.length, rv2.length]
      simp
    refine G.stops s _ E (by rw [hl]; exact ⟨hz, hTI, hTO, ⟨h1, p⟩, ⟨h2, p2⟩⟩) fun h' tk hk htk => ?_
    exact I.turnedL (ch := [N + 4, N + 2, N + 3, N, N + 1]) (fun c o hb q => hk c o (fun q' => hb (by
      have : c = N + 4 ∨ c = N + 3 ∨ c = N ∨ c = N + 1 := by simpa using q'
      rcases this with z | z | z | z <;> simp [z])) q) hf
  self := fun A i s Q E st h => wpAny_pyIter_zip st.1 h
def iZipG (K : PySem.W.Frag) (ta : TA) : TI := fun σ H R => ta σ H fun vs H1 => ∃ t1 t2 a b xs ys, vs = [.ref a, .ref b] ∧ SqA K t1 H1 a xs ∧ SqA K t2 H1 b ys ∧ R (ItzG K t1 t2 a b) H1
theorem pi_zipG {X : Cx} {e e2 : Expr} {ta : TA} {p pos tpos : Pos} {elts : List Expr} {kk : Nat} (hg : Gl X "zip") (hm : X.mg "zip" = none) (ha : PA X [e, e2] ta) (hs : starEach [e, e2] X.env = (false, eval e X.env) :: starEach [e2] X.env) (hpl : (backTo pos (starEach [e2] X.env)).any (·.1) = false) :
    PI X (.Tuple elts kk tpos) (.Call (.Name "zip" p) [e, e2] [] pos) (iZipG X.K ta) := by
  refine ⟨fun pins s σ H R I h => ?_⟩
  refine Call_ (ld_blt I hg hm PyProof.Rows.boot_zip (PyProof.Rows.callWith_type1 (thn (ha.run pos pins s σ H _ I h) fun us s1 ⟨vs, H1, I1, r1, q1⟩ => ?_) hs hpl))
  obtain ⟨t1, t2, a, b, xs, ys, ex, hqx, hqy, q⟩ := q1
  subst ex
  cases r1 with
  | cons r rr => cases rr with
    | cons r' rr =>
      cases rr
      cases r
      cases r'
      obtain ⟨its, rv, p1, la⟩ := invA I1 hqx
      obtain ⟨its2, rv2, p2, lb⟩ := invA I1 hqy
      refine zip_begins2 (beginsA t1 a its.toArray) (beginsA t2 b its2.toArray) p1 p2 fun h' hz hTI hTO h1 h2 hsz hk => wpAny_pyIter_zip hz ?_
      have I2 : L2.Inv X pins σ H1 { s1 with heap := h' } := I1.kept (t' := s1.toks) hk
      refine ⟨s1.heap.objs.size + 4, [s1.heap.objs.size + 4, s1.heap.objs.size + 2, s1.heap.objs.size + 3, s1.heap.objs.size, s1.heap.objs.size + 1], _, _, H1, rfl, I2, turn_zipG t1 t2 a b s1.heap.objs.size la lb, ⟨hz, hTI, ⟨_, _, hTO⟩, itA_of h1, itA_of h2⟩, fun c hcm => ?_, q⟩
      have e' : c = s1.heap.objs.size + 4 ∨ c = s1.heap.objs.size + 2 ∨ c = s1.heap.objs.size + 3 ∨ c = s1.heap.objs.size ∨ c = s1.heap.objs.size + 1 := by simpa using hcm
      have hle : s1.heap.objs.size ≤ c := by
        rcases e' with z | z | z | z | z
        · rw [z]; exact Nat.le_add_right _ _
        · rw [z]; exact Nat.le_add_right _ _
        · rw [z]; exact Nat.le_add_right _ _
        · rw [z]; exact Nat.le_refl _
        · rw [z]; exact Nat.le_add_right _ _
      exact I1.fpOk hle (I1.hok.fresh hle)
end Bi

end
section
set_option Elab.async false
set_option linter.all false
set_option autoImplicit false
set_option maxRecDepth 100000
set_option maxHeartbeats 1000000
/-! Bi16: enumerate, zip as sources; for; list comprehensions. -/
namespace Bi
open PySem L2
section
variable {X : Cx} {W : WX} {φ : Phi} {T : Tab} {k : Nat} {m ma mb mc mo mi : ME} {ml : ML} {e a b c o i tg : Expr} {pos p1 : Pos} {x y z : Str} {st : Stmt} {sts : List Stmt}
def tpOf : PV → Bool
  | .tup _ => true
  | _ => false
def srcOf (v : PV) (xs : List PV) : List (Nat × PO) := match v with
  | .ref n => [(n, .lst xs)]
  | _ => []
/-- a sequence, now and as long as its cell stays -/
theorem seq_src {v : PV} {u : V} {xs : List PV} {ρ : Nat → Addr} {s : Sg} {H : Hp} (rel : Rel X.K X.mg ρ s H) (b : v.bd s.g.length = true) (e : seqOf v s = some xs) (r : RV X.K X.mg H ρ v u) :
    ∃ a, u = .ref a ∧ (∃ us, SqA X.K (tpOf v) H a us) ∧ xs.all (PV.bd s.g.length) = true ∧ ∀ ρ2 s2 H2, Nx X.K X.mg ρ s H ρ2 s2 H2 → (∀ q ∈ srcOf v xs, s2.g[q.1]? = some q.2) → ∃ us, SqA X.K (tpOf v) H2 a us ∧ RVs X.K X.mg H2 ρ2 xs us := by
  cases v with
  | tup ys =>
    cases e
    obtain ⟨a, us, rfl, q, rs⟩ := RV.tup_iff.mp r
    rw [bd_tup] at b
    exact ⟨a, rfl, ⟨us, q⟩, b, fun ρ2 s2 H2 n _ => ⟨us, n.keep.tup _ _ q, n.rvs rs b⟩⟩
  | lsq ys =>
    cases e
    obtain ⟨a, us, rfl, q, rs⟩ := RV.lsq_iff.mp r
    rw [bd_lsq] at b
    exact ⟨a, rfl, ⟨us, q.sq⟩, b, fun ρ2 s2 H2 n _ => ⟨us, sql_keep n.keep q, n.rvs rs b⟩⟩
  | ref n =>
    cases r
    have e : (match s.g[n]? with | some (.lst xs) => some xs | _ => none) = some xs := e
    cases e2 : s.g[n]? with
    | none => rw [e2] at e; cases e
    | some ob =>
      rw [e2] at e
      cases ob with
      | lst ys =>
        cases e
        have hn : n < s.g.length := (List.getElem?_eq_some_iff.mp e2).1
        obtain ⟨us, q, rs⟩ := rel.cell n _ e2
        refine ⟨ρ n, rfl, ⟨us, SqL.of q⟩, lst_bd rel e2, fun ρ2 s2 H2 nn hs => ?_⟩
        obtain ⟨us2, q2, rs2⟩ := nn.rel.cell n _ (hs (n, .lst xs) (List.mem_cons_self ..))
        rw [nn.agr n hn] at q2
        exact ⟨us2, SqL.of q2, rs2⟩
      | _ => cases e
  | _ => cases e
def enumP : Int → List PV → List PV
  | _, [] => []
  | lo, x :: r => .tup [.int lo, x] :: enumP (lo + 1) r
theorem enumP_len : ∀ (lo : Int) (xs : List PV), (enumP lo xs).length = xs.length
  | _, [] => rfl
  | lo, x :: r => congrArg Nat.succ (enumP_len (lo + 1) r)
theorem enumP_get : ∀ (lo : Int) (xs : List PV) (i : Nat) (x : PV), xs[i]? = some x → (enumP lo xs)[i]? = some (.tup [.int (lo + (i : Nat)), x])
  | _, [], i, x, e => by cases e
  | lo, y :: r, 0, x, e => by
    cases e
    show some _ = some _
    have : lo + ((0 : Nat) : Int) = lo := by simp
    rw [this]
  | lo, y :: r, i + 1, x, e => by
    have q := enumP_get (lo + 1) r i x e
    show (enumP (lo + 1) r)[i]? = _
    rw [q]
    have : lo + 1 + (i : Int) = lo + ((i + 1 : Nat) : Int) := by push_cast; omega
    rw [this]
theorem enumP_bd (n : Nat) : ∀ (lo : Int) (xs : List PV), xs.all (PV.bd n) = true → (enumP lo xs).all (PV.bd n) = true
  | _, [], _ => rfl
  | lo, x :: r, h => by
    rw [List.all_cons, Bool.and_eq_true] at h
    have q := enumP_bd n (lo + 1) r h.2
    show ((PV.tup [.int lo, x]).bd n && (enumP (lo + 1) r).all (PV.bd n)) = true
    rw [q, bd_tup]
    simp [PV.bd, h.1]
def vEnum (lo : Int) (v : PV) (s : Sg) : R Wk := match seqOf v s with
  | some xs => .ok ⟨enumP lo xs, srcOf v xs, none⟩ s
  | none => .bad
def vEnum1 : List PV → Sg → R Wk
  | [v], s => vEnum 0 v s
  | _, _ => .bad
def vEnum2 : List PV → Sg → R Wk
  | [v, .int k], s => if ok63 k then vEnum k v s else .bad
  | _, _ => .bad
theorem vEnum_gd (lo : Int) (v : PV) (s : Sg) : GdR s (vEnum lo v s) := by
  unfold vEnum
  split
  · exact Gd.refl _
  · trivial
theorem vEnum1_gd (v : List PV) (s : Sg) : GdR s (vEnum1 v s) := by
  unfold vEnum1
  split
  · exact vEnum_gd _ _ _
  · trivial
theorem vEnum2_gd (v : List PV) (s : Sg) : GdR s (vEnum2 v s) := by
  unfold vEnum2
  split
  · split
    · exact vEnum_gd _ _ _
    · trivial
  · trivial
theorem vEnum_nl (lo : Int) (v : PV) (s : Sg) (it : Wk) (s1 : Sg) (h : vEnum lo v s = .ok it s1) : it.unl = none := by
  unfold vEnum at h
  split at h
  · cases h; rfl
  · cases h
theorem vEnum1_nl (v : List PV) (s : Sg) (it : Wk) (s1 : Sg) (h : vEnum1 v s = .ok it s1) : it.unl = none := by
  unfold vEnum1 at h
  split at h
  · exact vEnum_nl _ _ _ _ _ h
  · cases h
theorem vEnum2_nl (v : List PV) (s : Sg) (it : Wk) (s1 : Sg) (h : vEnum2 v s = .ok it s1) : it.unl = none := by
  unfold vEnum2 at h
  split at h
  · split at h
    · exact vEnum_nl _ _ _ _ _ h
    · cases h
  · cases h
theorem vEnum_run {lo : Int} {v : PV} {u : V} {ρ : Nat → Addr} {s : Sg} {H : Hp} {σ : L2.St} {R : It → Hp → Prop} (rel : Rel X.K X.mg ρ s H) (b : v.bd s.g.length = true) (r : RV X.K X.mg H ρ v u) (h : Post X.K X.mg (RRi X) W ρ s H σ (fun J H' => R J H') (vEnum lo v s)) :
    ∃ tp a us, u = .ref a ∧ SqA X.K tp H a us ∧ R (IteG X.K tp lo a) H := by
  unfold vEnum at h
  cases e : seqOf v s with
  | none => rw [e] at h; exact h.elim
  | some xs =>
    rw [e] at h
    obtain ⟨a, rfl, ⟨us, q⟩, hb, st⟩ := seq_src rel b e r
    refine ⟨tpOf v, a, us, rfl, q, h ρ H _ (Nx.refl rel) ⟨enumP_bd _ _ _ hb, fun n e => (by cases e), fun H => ∃ us, SqA X.K (tpOf v) H a us ∧ us.length = xs.length, fun i H x H' => ∃ T y, x = .ref T ∧ H T = none ∧ H' = upd H T (.tup [.int (lo + (i : Nat)), y]) ∧ ∀ us, SqA X.K (tpOf v) H a us → us[i]? = some y, ⟨?_, fun H ⟨us, q, hl⟩ => ?_, fun i H x H' _ _ y => y⟩, fun ρ2 s2 H2 n ok => ?_, fun i ρ2 s2 H2 x H3 n ok hi y => ?_⟩⟩
    · intro i H hi ⟨us, q, hl⟩
      have hi : i < (enumP lo xs).length := hi
      rw [enumP_len, ← hl] at hi
      exact ⟨us, us[i], q, by simp [hi]⟩
    · refine ⟨us, q, ?_⟩
      show us.length = (enumP lo xs).length
      rw [enumP_len]; exact hl
    · obtain ⟨us2, q2, rs2⟩ := st ρ2 s2 H2 n ok
      exact ⟨us2, q2, rs2.length.symm⟩
    · obtain ⟨us2, q2, rs2⟩ := st ρ2 s2 H2 n ok
      obtain ⟨T, w, rfl, hT, rfl, hw⟩ := y
      obtain ⟨y, e3, r3⟩ := paired_some' rs2 (hw us2 q2)
      have by_ : y.bd s2.g.length = true := n.bl (List.all_eq_true.mp hb y (List.mem_of_getElem? e3))
      obtain ⟨n3, r4⟩ := pair_new n.rel hT (by rw [PV.bd] : (PV.int (lo + (i : Nat))).bd s2.g.length = true) by_ (.int _) r3
      exact ⟨_, enumP_get lo xs i y e3, n3, r4⟩
def mIL (f : List PV → Sg → R Wk) (ml : ML) : MI := fun φ p s => (ml φ p s).bind f
theorem sim_enum1 {p : Pos} {elts : List Expr} {kk : Nat} {tpos : Pos} (hg : Gl X "enumerate") (hm : X.mg "enumerate" = none) (ha : SimA X W φ ml [a]) (hs : starEach [a] X.env = [(false, eval a X.env)]) : SimI X W φ (mIL vEnum1 ml) (.Tuple elts kk tpos) (.Call (.Name "enumerate" p) [a] [] pos) := by
  refine ⟨PI.imp (pi_enumG hg hm ha.pa hs) fun σ H R q => ?_, fun p s => (ha.gd p s).bind fun v s' _ => vEnum1_gd v s', fun p s it s1 n h hu => nl_of vEnum1_nl h hu⟩
  obtain ⟨ρ, p, s, rel, sr, q⟩ := q
  refine tA_seq rel sr q fun vs s1 ρ1 H1 us e1 n1 b1 r1 sr1 h1 => ?_
  unfold vEnum1 at h1
  split at h1
  · cases r1 with
    | cons r1 rs =>
      cases rs
      rw [List.all_cons, List.all_nil, Bool.and_true] at b1
      obtain ⟨tp, a, us, rfl, q, h⟩ := vEnum_run n1.rel b1 r1 h1
      exact ⟨tp, a, us, rfl, q, h⟩
  · exact h1.elim
theorem sim_enum2 {p : Pos} {elts : List Expr} {kk : Nat} {tpos : Pos} (hg : Gl X "enumerate") (hm : X.mg "enumerate" = none) (ha : SimA X W φ ml [a, b]) (hs : starEach [a, b] X.env = (false, eval a X.env) :: starEach [b] X.env) (hpl : (backTo pos (starEach [b] X.env)).any (·.1) = false) : SimI X W φ (mIL vEnum2 ml) (.Tuple elts kk tpos) (.Call (.Name "enumerate" p) [a, b] [] pos) := by
  refine ⟨PI.imp (pi_enumK hg hm ha.pa hs hpl) fun σ H R q => ?_, fun p s => (ha.gd p s).bind fun v s' _ => vEnum2_gd v s', fun p s it s1 n h hu => nl_of vEnum2_nl h hu⟩
  obtain ⟨ρ, p, s, rel, sr, q⟩ := q
  refine tA_seq rel sr q fun vs s1 ρ1 H1 us e1 n1 b1 r1 sr1 h1 => ?_
  unfold vEnum2 at h1
  split at h1
  · rename_i v k
    cases r1 with
    | cons r1 rs => cases rs with
      | cons r2 rs =>
        cases rs
        cases r2
        rw [List.all_cons, Bool.and_eq_true] at b1
        by_cases c : ok63 k = true
        · rw [if_pos c] at h1
          obtain ⟨c1, c2⟩ := Bool.and_eq_true_iff.mp (ok63_of c)
          obtain ⟨tp, a, us, rfl, q, h⟩ := vEnum_run n1.rel b1.1 r1 h1
          exact ⟨tp, a, us, k, rfl, q, of_decide_eq_true c1, of_decide_eq_true c2, h⟩
        · rw [if_neg c] at h1; exact h1.elim
  · exact h1.elim
/-! ### zip -/
def zipP : List PV → List PV → List PV
  | x :: xs, y :: ys => .tup [x, y] :: zipP xs ys
  | _, _ => []
theorem zipP_len : ∀ (xs ys : List PV), (zipP xs ys).length = min xs.length ys.length
  | [], ys => by cases ys <;> simp [zipP]
  | x :: xs, [] => by simp [zipP]
  | x :: xs, y :: ys => by
    show (zipP xs ys).length + 1 = _
    rw [zipP_len xs ys]
    simp only [List.length_cons]
    omega
theorem zipP_get : ∀ (xs ys : List PV) (i : Nat) (x y : PV), xs[i]? = some x → ys[i]? = some y → (zipP xs ys)[i]? = some (.tup [x, y])
  | [], _, _, _, _, e, _ => by cases e
  | _ :: _, [], _, _, _, _, e => by cases e
  | x :: xs, y :: ys, 0, _, _, e1, e2 => by cases e1; cases e2; rfl
  | x :: xs, y :: ys, i + 1, _, _, e1, e2 => zipP_get xs ys i _ _ e1 e2
theorem zipP_bd (n : Nat) : ∀ (xs ys : List PV), xs.all (PV.bd n) = true → ys.all (PV.bd n) = true → (zipP xs ys).all (PV.bd n) = true
  | [], ys, _, _ => by cases ys <;> rfl
  | x :: xs, [], _, _ => rfl
  | x :: xs, y :: ys, h, k => by
    rw [List.all_cons, Bool.and_eq_true] at h k
    have q := zipP_bd n xs ys h.2 k.2
    show ((PV.tup [x, y]).bd n && (zipP xs ys).all (PV.bd n)) = true
    rw [q, bd_tup]
    simp [h.1, k.1]
def vZip : List PV → Sg → R Wk
  | [v, w], s => (match seqOf v s, seqOf w s with
    | some xs, some ys => .ok ⟨zipP xs ys, srcOf v xs ++ srcOf w ys, none⟩ s
    | _, _ => .bad)
  | _, _ => .bad
theorem vZip_gd (v : List PV) (s : Sg) : GdR s (vZip v s) := by
  unfold vZip
  split
  · split
    · exact Gd.refl _
    · trivial
  · trivial
theorem vZip_nl (v : List PV) (s : Sg) (it : Wk) (s1 : Sg) (h : vZip v s = .ok it s1) : it.unl = none := by
  unfold vZip at h
  split at h
  · split at h
    · cases h; rfl
    · cases h
  · cases h
theorem sim_zip {p : Pos} {elts : List Expr} {kk : Nat} {tpos : Pos} (hg : Gl X "zip") (hm : X.mg "zip" = none) (ha : SimA X W φ ml [a, b]) (hs : starEach [a, b] X.env = (false, eval a X.env) :: starEach [b] X.env) (hpl : (backTo pos (starEach [b] X.env)).any (·.1) = false) : SimI X W φ (mIL vZip ml) (.Tuple elts kk tpos) (.Call (.Name "zip" p) [a, b] [] pos) := by
  refine ⟨PI.imp (pi_zipG hg hm ha.pa hs hpl) fun σ H R q => ?_, fun p s => (ha.gd p s).bind fun v s' _ => vZip_gd v s', fun p s it s1 n h hu => nl_of vZip_nl h hu⟩
  obtain ⟨ρ, p, s, rel, sr, q⟩ := q
  refine tA_seq rel sr q fun vs s1 ρ1 H1 us e1 n1 b1 r1 sr1 h1 => ?_
  unfold vZip at h1
  split at h1
  · rename_i v w
    cases r1 with
    | cons r1 rs => cases rs with
      | cons r2 rs =>
        cases rs
        simp only [List.all_cons, List.all_nil, Bool.and_true, Bool.and_eq_true] at b1
        split at h1
        · rename_i xs ys ex ey
          obtain ⟨a, rfl, ⟨us, q⟩, hb, st⟩ := seq_src n1.rel b1.1 ex r1
          obtain ⟨c, rfl, ⟨us', q'⟩, hb', st'⟩ := seq_src n1.rel b1.2 ey r2
          have ok1 : ∀ s2, Wk.ok ⟨zipP xs ys, srcOf v xs ++ srcOf w ys, none⟩ s2 → (∀ q ∈ srcOf v xs, s2.g[q.1]? = some q.2) ∧ ∀ q ∈ srcOf w ys, s2.g[q.1]? = some q.2 := fun s2 ok => ⟨fun q hq => ok q (List.mem_append_left _ hq), fun q hq => ok q (List.mem_append_right _ hq)⟩
          refine ⟨tpOf v, tpOf w, a, c, us, us', rfl, q, q', h1 ρ1 H1 _ (Nx.refl n1.rel) ⟨zipP_bd _ _ _ hb hb', fun n e => (by cases e), fun H => ∃ us us', SqA X.K (tpOf v) H a us ∧ SqA X.K (tpOf w) H c us' ∧ us.length = xs.length ∧ us'.length = ys.length,
            fun i H v' H' => ∃ T x y, v' = .ref T ∧ H T = none ∧ H' = upd H T (.tup [x, y]) ∧ (∀ xs, SqA X.K (tpOf v) H a xs → xs[i]? = some x) ∧ ∀ ys, SqA X.K (tpOf w) H c ys → ys[i]? = some y, ⟨?_, fun H ⟨us, us', q, q', hl, hl'⟩ => ?_, fun i H x H' _ _ y => y⟩, fun ρ2 s2 H2 n ok => ?_, fun i ρ2 s2 H2 x H3 n ok hi y => ?_⟩⟩
          · intro i H hi ⟨us, us', q, q', hl, hl'⟩
            have hi : i < (zipP xs ys).length := hi
            rw [zipP_len, ← hl, ← hl'] at hi
            have h1 : i < us.length := by omega
            have h2 : i < us'.length := by omega
            exact ⟨us, us', us[i], us'[i], q, q', by simp [h1], by simp [h2]⟩
          · refine ⟨us, us', q, q', ?_⟩
            show _ = (zipP xs ys).length
            rw [zipP_len, hl, hl']
          · obtain ⟨us2, q2, rs2⟩ := st ρ2 s2 H2 n (ok1 s2 ok).1
            obtain ⟨us3, q3, rs3⟩ := st' ρ2 s2 H2 n (ok1 s2 ok).2
            exact ⟨us2, us3, q2, q3, rs2.length.symm, rs3.length.symm⟩
          · obtain ⟨us2, q2, rs2⟩ := st ρ2 s2 H2 n (ok1 s2 ok).1
            obtain ⟨us3, q3, rs3⟩ := st' ρ2 s2 H2 n (ok1 s2 ok).2
            obtain ⟨T, w1, w2, rfl, hT, rfl, hw1, hw2⟩ := y
            obtain ⟨y1, e3, r3⟩ := paired_some' rs2 (hw1 us2 q2)
            obtain ⟨y2, e4, r4⟩ := paired_some' rs3 (hw2 us3 q3)
            have by1 : y1.bd s2.g.length = true := n.bl (List.all_eq_true.mp hb y1 (List.mem_of_getElem? e3))
            have by2 : y2.bd s2.g.length = true := n.bl (List.all_eq_true.mp hb' y2 (List.mem_of_getElem? e4))
            obtain ⟨n3, r5⟩ := pair_new n.rel hT by1 by2 r3 r4
            exact ⟨_, zipP_get xs ys i y1 y2 e3 e4, n3, r5⟩
        · exact h1.elim
  · exact h1.elim
end
end Bi

end
section
set_option Elab.async false
set_option linter.all false
set_option autoImplicit false
set_option maxRecDepth 100000
set_option maxHeartbeats 1000000
/-! Bi17: for; garbage at the end of a statement. -/
namespace Bi
open PySem L2
/-! ### garbage behind statements -/
def bdP (n : Nat) (p : Sl) : Bool := p.all fun o => match o with | some v => v.bd n | none => true
def gcRS (n low : Nat) : RS → RS
  | .nx p s => if n ≤ s.low ∧ bdP n p = true then .nx p ⟨s.g.take n, low⟩ else .nx p ⟨s.g, min low s.low⟩
  | .ct p s => if n ≤ s.low ∧ bdP n p = true then .ct p ⟨s.g.take n, low⟩ else .ct p ⟨s.g, min low s.low⟩
  | .bk p s => if n ≤ s.low ∧ bdP n p = true then .bk p ⟨s.g.take n, low⟩ else .bk p ⟨s.g, min low s.low⟩
  | .rt v s => if n ≤ s.low ∧ v.bd n = true then .rt v ⟨s.g.take n, low⟩ else .rt v ⟨s.g, min low s.low⟩
  | .er C v p s => .er C v p ⟨s.g, min low s.low⟩
  | .bad => .bad
def gcS (m : MS) : MS := fun φ p s => gcRS s.g.length s.low (m φ p s.top)
section
variable {K : PySem.W.Frag} {mg : Str → Option Value} {H H' : Hp} {ρ ρ' : Nat → Addr} {s s' : Sg} {p : Sl} {σ : L2.St} {W : WX} {D : Ends}
theorem bdP_at {n : Nat} (h : bdP n p = true) {i : Nat} {v : PV} (e : p[i]? = some (some v)) : v.bd n = true := List.all_eq_true.mp h (some v) (List.mem_of_getElem? e)
theorem srel_take {n : Nat} (h : SRel K mg ρ s H p σ) (hb : bdP n p = true) (hn : n ≤ s.g.length) (low : Nat) : SRel K mg ρ ⟨s.g.take n, low⟩ H p σ :=
  ⟨h.len, fun i pv e => ⟨by
    show pv.bd (s.g.take n).length = true
    rw [List.length_take, Nat.min_eq_left hn]
    exact bdP_at hb e, (h.at_ i pv e).2⟩⟩
theorem nx_take {s1 : Sg} {H1 : Hp} {ρ1 : Nat → Addr} (rel : Rel K mg ρ s H) (d : Gd s.top s1) (hl : s.g.length ≤ s1.low) (n : Nx K mg ρ s.top H ρ1 s1 H1) : Nx K mg ρ s H ρ1 ⟨s1.g.take s.g.length, s.low⟩ H1 := by
  have hlen : s.g.length ≤ s1.g.length := d.len
  refine ⟨gc_take n.rel hlen (gd_wf (low := 0) rel d hl) _, n.keep, n.agr, ?_, ?_⟩
  · show s.g.length ≤ (s1.g.take s.g.length).length
    rw [List.length_take]; omega
  · have q := fz_take n.fz rfl []
    rw [List.append_nil] at q
    exact q
theorem nx_min {s1 : Sg} {H1 : Hp} {ρ1 : Nat → Addr} (n : Nx K mg ρ s.top H ρ1 s1 H1) (low : Nat) : Nx K mg ρ s H ρ1 ⟨s1.g, low⟩ H1 := ⟨n.rel.low _, n.keep, n.agr, n.len, n.fz⟩
theorem posts_gc {r : RS} (rel : Rel K mg ρ s H) (d : GdS s.top r) (h : PostS K mg W D ρ s H (gcRS s.g.length s.low r)) : PostS K mg W D ρ s.top H r := by
  cases r with
  | bad => exact h
  | nx p' s1 =>
    intro ρ1 H1 σ1 n sr
    have d : Gd s.top s1 := d
    have hlen : s.g.length ≤ s1.g.length := d.len
    have h : PostS K mg W D ρ s H (if s.g.length ≤ s1.low ∧ bdP s.g.length p' = true then .nx p' ⟨s1.g.take s.g.length, s.low⟩ else .nx p' ⟨s1.g, min s.low s1.low⟩) := h
    split at h
    · rename_i c
      exact h ρ1 H1 σ1 (nx_take rel d c.1 n) (srel_take sr c.2 hlen _)
    · exact h ρ1 H1 σ1 (nx_min n _) (sr.low _)
  | ct p' s1 =>
    intro ρ1 H1 σ1 n sr
    have d : Gd s.top s1 := d
    have hlen : s.g.length ≤ s1.g.length := d.len
    have h : PostS K mg W D ρ s H (if s.g.length ≤ s1.low ∧ bdP s.g.length p' = true then .ct p' ⟨s1.g.take s.g.length, s.low⟩ else .ct p' ⟨s1.g, min s.low s1.low⟩) := h
    split at h
    · rename_i c
      exact h ρ1 H1 σ1 (nx_take rel d c.1 n) (srel_take sr c.2 hlen _)
    · exact h ρ1 H1 σ1 (nx_min n _) (sr.low _)
  | bk p' s1 =>
    intro ρ1 H1 σ1 n sr
    have d : Gd s.top s1 := d
    have hlen : s.g.length ≤ s1.g.length := d.len
    have h : PostS K mg W D ρ s H (if s.g.length ≤ s1.low ∧ bdP s.g.length p' = true then .bk p' ⟨s1.g.take s.g.length, s.low⟩ else .bk p' ⟨s1.g, min s.low s1.low⟩) := h
    split at h
    · rename_i c
      exact h ρ1 H1 σ1 (nx_take rel d c.1 n) (srel_take sr c.2 hlen _)
    · exact h ρ1 H1 σ1 (nx_min n _) (sr.low _)
  | rt v s1 =>
    intro ρ1 H1 u n b r
    have d : Gd s.top s1 := d
    have hlen : s.g.length ≤ s1.g.length := d.len
    have h : PostS K mg W D ρ s H (if s.g.length ≤ s1.low ∧ v.bd s.g.length = true then .rt v ⟨s1.g.take s.g.length, s.low⟩ else .rt v ⟨s1.g, min s.low s1.low⟩) := h
    split at h
    · rename_i c
      refine h ρ1 H1 u (nx_take rel d c.1 n) ?_ r
      show v.bd (s1.g.take s.g.length).length = true
      rw [List.length_take, Nat.min_eq_left hlen]
      exact c.2
    · exact h ρ1 H1 u (nx_min n _) b r
  | er C v p' s1 =>
    intro ρ1 H1 σ1 Ca dd u n sr e1 e2 b r
    exact h ρ1 H1 σ1 Ca dd u (nx_min n _) (sr.low _) e1 e2 b r
theorem gd_take0 {s1 : Sg} (d : Gd s.top s1) (hl : s.g.length ≤ s1.low) : Gd s ⟨s1.g.take s.g.length, s.low⟩ := by
  have := gd_take d hl []
  rw [List.append_nil] at this
  exact this
theorem gds_gc {r : RS} (d : GdS s.top r) : GdS s (gcRS s.g.length s.low r) := by
  cases r with
  | bad => trivial
  | er C v p' s1 => exact gd_min d
  | nx p' s1 =>
    show GdS s (if s.g.length ≤ s1.low ∧ bdP s.g.length p' = true then .nx p' ⟨s1.g.take s.g.length, s.low⟩ else .nx p' ⟨s1.g, min s.low s1.low⟩)
    split
    · rename_i c; exact gd_take0 d c.1
    · exact gd_min d
  | ct p' s1 =>
    show GdS s (if s.g.length ≤ s1.low ∧ bdP s.g.length p' = true then .ct p' ⟨s1.g.take s.g.length, s.low⟩ else .ct p' ⟨s1.g, min s.low s1.low⟩)
    split
    · rename_i c; exact gd_take0 d c.1
    · exact gd_min d
  | bk p' s1 =>
    show GdS s (if s.g.length ≤ s1.low ∧ bdP s.g.length p' = true then .bk p' ⟨s1.g.take s.g.length, s.low⟩ else .bk p' ⟨s1.g, min s.low s1.low⟩)
    split
    · rename_i c; exact gd_take0 d c.1
    · exact gd_min d
  | rt v s1 =>
    show GdS s (if s.g.length ≤ s1.low ∧ v.bd s.g.length = true then .rt v ⟨s1.g.take s.g.length, s.low⟩ else .rt v ⟨s1.g, min s.low s1.low⟩)
    split
    · rename_i c; exact gd_take0 d c.1
    · exact gd_min d
end
section
variable {X : Cx} {W : WX} {φ : Phi} {T : Tab} {k : Nat} {m ma mb mc mo mi : ME} {ml : ML} {e a b c o i tg iter : Expr} {pos p1 : Pos} {x y z : Str} {st : Stmt} {sts body : List Stmt}
theorem sims_gc {ms : MS} (h : SimS X W φ ms st) : SimS X W φ (gcS ms) st := ⟨PS.imp h.ps fun D σ H q => by
  obtain ⟨ρ, p, s, rel, sr, q⟩ := q
  exact ⟨ρ, p, s.top, rel.low _, sr.low _, posts_gc rel (h.gd p s.top) q⟩, fun p s => gds_gc (h.gd p s.top)⟩
theorem simss_gc {ms : MS} (h : SimSs X W φ ms sts) : SimSs X W φ (gcS ms) sts := ⟨PSs.imp h.pss fun D σ H q => by
  obtain ⟨ρ, p, s, rel, sr, q⟩ := q
  exact ⟨ρ, p, s.top, rel.low _, sr.low _, posts_gc rel (h.gd p s.top) q⟩, fun p s => gds_gc (h.gd p s.top)⟩
/-! ### for -/
open Classical in
noncomputable def forM (it : Wk) (g : PV → Sl → Option Sl) (b : MS) (φ : Phi) : List PV → Sl → Sg → RS
  | [], p, s => if it.ok s then .nx p s else .bad
  | x :: xs, p, s => if it.ok s then (match g x p with
    | some p1 => (match b φ p1 s with
      | .nx p2 s2 => forM it g b φ xs p2 s2
      | .ct p2 s2 => forM it g b φ xs p2 s2
      | .bk p2 s2 => .nx p2 s2
      | r => r)
    | none => .bad) else .bad
def unlS : Option Nat → RS → RS
  | none, r => r
  | some n, .nx p s => (match s.g[n]? with | some (.dic kvs true) => .nx p (s.lk n kvs false) | _ => .bad)
  | some n, .rt v s => (match s.g[n]? with | some (.dic kvs true) => .rt v (s.lk n kvs false) | _ => .bad)
  | some _, .er C v p s => .er C v p s
  | some _, _ => .bad
noncomputable def mFor (mi : MI) (g : PV → Sl → Option Sl) (b : MS) : MS := fun φ p s => (mi φ p s).toS p fun it s1 => unlS it.unl (forM it g b φ it.xs p s1)
theorem forM_ok {it : Wk} {g : PV → Sl → Option Sl} {b : MS} {xs : List PV} {p : Sl} {s : Sg} (h : forM it g b φ xs p s ≠ .bad) : it.ok s := by
  cases xs with
  | nil => exact Classical.not_not.mp fun z => h (by unfold forM; rw [if_neg z])
  | cons x xs => exact Classical.not_not.mp fun z => h (by unfold forM; rw [if_neg z])
theorem forM_nil {it : Wk} {g : PV → Sl → Option Sl} {b : MS} {p : Sl} {s : Sg} (h : it.ok s) : forM it g b φ [] p s = .nx p s := by unfold forM; rw [if_pos h]
theorem forM_cons {it : Wk} {g : PV → Sl → Option Sl} {b : MS} {x : PV} {xs : List PV} {p : Sl} {s : Sg} (h : it.ok s) : forM it g b φ (x :: xs) p s = (match g x p with
    | some p1 => (match b φ p1 s with
      | .nx p2 s2 => forM it g b φ xs p2 s2
      | .ct p2 s2 => forM it g b φ xs p2 s2
      | .bk p2 s2 => .nx p2 s2
      | r => r)
    | none => .bad) := by rw [forM, if_pos h]
theorem forM_gd {it : Wk} {g : PV → Sl → Option Sl} {b : MS} (hb : ∀ p s, GdS s (b φ p s)) : ∀ (xs : List PV) (p : Sl) (s : Sg), GdS s (forM it g b φ xs p s)
  | [], p, s => by
    unfold forM
    split
    · exact Gd.refl s
    · trivial
  | x :: xs, p, s => by
    rw [forM]
    split
    · split
      · rename_i p1 _
        have q := hb p1 s
        split
        · rename_i p2 s2 e; rw [e] at q; exact GdS.trans q (forM_gd hb xs p2 s2)
        · rename_i p2 s2 e; rw [e] at q; exact GdS.trans q (forM_gd hb xs p2 s2)
        · rename_i p2 s2 e; rw [e] at q; exact q
        · exact q
      · trivial
    · trivial
theorem unlS_gd {s : Sg} {u : Option Nat} {r : RS} (h : GdS s r) : GdS s (unlS u r) := by
  cases u with
  | none => exact h
  | some n =>
    cases r with
    | nx p s1 =>
      show GdS s (match s1.g[n]? with | some (.dic kvs true) => .nx p (s1.lk n kvs false) | _ => .bad)
      split
      · rename_i kvs e; exact Gd.trans h (Gd.lk e)
      · trivial
    | rt v s1 =>
      show GdS s (match s1.g[n]? with | some (.dic kvs true) => .rt v (s1.lk n kvs false) | _ => .bad)
      split
      · rename_i kvs e; exact Gd.trans h (Gd.lk e)
      · trivial
    | er C v p s1 => exact h
    | _ => trivial
theorem SRel.keep {K : PySem.W.Frag} {mg : Str → Option Value} {ρ : Nat → Addr} {s s' : Sg} {H H' : Hp} {p : Sl} {σ : L2.St} (h : SRel K mg ρ s H p σ) (k : Keep K H H') (hl : s.g.length ≤ s'.g.length) : SRel K mg ρ s' H' p σ :=
  ⟨h.len, fun i pv e => let ⟨b, v, e1, r⟩ := h.at_ i pv e; ⟨bd_mono hl _ b, v, e1, RV.mono k (fun _ _ => rfl) r b⟩⟩
/-- the end without the lock -/
theorem unl_end {ρ ρ1 ρ2 : Nat → Addr} {s s1 s2 : Sg} {H H1 H2 : Hp} {n : Nat} {kvs : List (Key × PV)} (n01 : Nx X.K X.mg ρ s H ρ1 s1 H1) (hl : lockd s n = false) (hn : n < s1.g.length) (hx : ∀ o' u', X.H_0 (ρ1 n) ≠ some (.frz o' u')) (n12 : Nx X.K X.mg ρ1 s1 H1 ρ2 s2 H2) (e : s2.g[n]? = some (.dic kvs true)) :
    ∃ H3, Unl X H2 H3 ∧ Nx X.K X.mg ρ s H ρ2 (s2.lk n kvs false) H3 ∧ Keep X.K H2 H3 := by
  obtain ⟨o, ws, q, r⟩ := n12.rel.cell n _ e
  have ea : ρ2 n = ρ1 n := n12.agr n hn
  have h0 : ∀ kvs, s.g[n]? ≠ some (.dic kvs true) := fun kvs z => by
    unfold lockd at hl
    rw [z] at hl
    cases hl
  obtain ⟨w, hw, w1, w2⟩ := (n12.rel.cell n _ e).there
  refine ⟨_, .inr ⟨ρ2 n, o, .dK ws, q, by rw [ea]; exact hx, rfl⟩, Nx.unlock (n01.trans n12) h0 e q r, Keep.updH fun v e => ?_⟩
  rw [hw] at e
  cases e
  exact ⟨w1, w2⟩
theorem unlS_post {D : Ends} {ρ ρ1 : Nat → Addr} {s s1 : Sg} {H H1 : Hp} {u : Option Nat} {r : RS} (n01 : Nx X.K X.mg ρ s H ρ1 s1 H1) (hu : ∀ n, u = some n → lockd s n = false ∧ n < s1.g.length ∧ ∀ o' u', X.H_0 (ρ1 n) ≠ some (.frz o' u')) (h : PostS X.K X.mg W D ρ s H (unlS u r)) :
    PostS X.K X.mg W (unEnds X D) ρ1 s1 H1 r := by
  cases u with
  | none =>
    have h : PostS X.K X.mg W D ρ s H r := h
    have h := h.step n01
    cases r with
    | nx p' s' => exact fun ρ' H' σ' n' sr => ⟨H', .inl rfl, h ρ' H' σ' n' sr⟩
    | bk p' s' => exact fun ρ' H' σ' n' sr => ⟨H', .inl rfl, h ρ' H' σ' n' sr⟩
    | ct p' s' => exact fun ρ' H' σ' n' sr => ⟨H', .inl rfl, h ρ' H' σ' n' sr⟩
    | rt v s' => exact fun ρ' H' u n' b r => ⟨H', .inl rfl, h ρ' H' u n' b r⟩
    | er C v p' s' => exact h
    | bad => exact h
  | some n =>
    obtain ⟨hl, hn, hx⟩ := hu n rfl
    cases r with
    | nx p' s' =>
      have h : PostS X.K X.mg W D ρ s H (match s'.g[n]? with | some (.dic kvs true) => .nx p' (s'.lk n kvs false) | _ => .bad) := h
      intro ρ' H' σ' n' sr
      split at h
      · rename_i kvs e
        obtain ⟨H3, hu3, n3, k3⟩ := unl_end n01 hl hn hx n' e
        exact ⟨H3, hu3, h ρ' H3 σ' n3 (sr.keep k3 (by show _ ≤ (s'.g.set n _).length; simp))⟩
      · exact h.elim
    | rt v s' =>
      have h : PostS X.K X.mg W D ρ s H (match s'.g[n]? with | some (.dic kvs true) => .rt v (s'.lk n kvs false) | _ => .bad) := h
      intro ρ' H' u n' b r
      split at h
      · rename_i kvs e
        obtain ⟨H3, hu3, n3, k3⟩ := unl_end n01 hl hn hx n' e
        exact ⟨H3, hu3, h ρ' H3 u n3 (bd_mono (by show _ ≤ (s'.g.set n _).length; simp) _ b) (RV.mono k3 (fun _ _ => rfl) r b)⟩
      · exact h.elim
    | er C v p' s' =>
      have h : PostS X.K X.mg W D ρ s H (.er C v p' s') := h
      exact h.step n01
    | bk p' s' => exact h.elim
    | ct p' s' => exact h.elim
    | bad => exact h.elim
theorem sims_for {mi : MI} {g : TG} {f : PV → Sl → Option Sl} {is : List Nat} {b : MS} (hp : PassesOwn (model X.prog X.w) X.A X.env X.xe) (hc : X.calm = true) (hi : SimI X W φ mi tg iter) (hg : SimG X g f is tg) (hb : SimSs X W φ b body) (hs : ∀ x, foldedSetIterable iter X.env x = pure x) :
    SimS X W φ (mFor mi f b) (.For tg iter body [] pos) := by
  refine ⟨PS.imp (ps_un (ps_for hp hc hi.pi hg.pg hb.pss hs)) fun D σ H q => ?_, fun p s => GdS.of (hi.gd p s) fun it s1 _ => unlS_gd (forM_gd hb.gd _ _ _)⟩
  obtain ⟨ρ, p, s, rel, sr, q⟩ := q
  refine ⟨ρ, p, s, rel, sr, ?_⟩
  have q : PostS X.K X.mg W D ρ s H ((mi φ p s).toS p fun it s1 => unlS it.unl (forM it f b φ it.xs p s1)) := q
  cases e : mi φ p s with
  | bad => rw [e] at q; exact q
  | err C v s1 =>
    rw [e] at q
    exact fun ρ' H' Ca dd u n e1 e2 e3 e4 => q ρ' H' σ Ca dd u n (sr.mono n) e1 e2 e3 e4
  | ok it s1 =>
    rw [e] at q
    have q : PostS X.K X.mg W D ρ s H (unlS it.unl (forM it f b φ it.xs p s1)) := q
    intro ρ1 H1 J n1 rr
    obtain ⟨G, Y, wp⟩ := rr.go
    have q1 := unlS_post n1 (fun n hn => ⟨hi.nl p s it s1 n e hn, rr.unl n hn⟩) q
    refine for_it wp.walk (fun i σ2 H2 => ∃ ρ2 p2 s2, Nx X.K X.mg ρ1 s1 H1 ρ2 s2 H2 ∧ SRel X.K X.mg ρ2 s2 H2 p2 σ2 ∧ PostS X.K X.mg W (unEnds X D) ρ2 s2 H2 (forM it f b φ (it.xs.drop i) p2 s2)) ⟨ρ1, p, s1, Nx.refl n1.rel, sr.mono n1, q1⟩ ?_ ?_ ?_
    · rintro i σ2 H2 hi ⟨ρ2, p2, s2, n2, sr2, q2⟩
      exact wp.stays ρ2 s2 H2 n2 (forM_ok q2.nobad)
    · rintro i x σ2 H2 H3 hi ⟨ρ2, p2, s2, n2, sr2, q2⟩ hy
      have ok := forM_ok q2.nobad
      obtain ⟨y, ey, n3, r3⟩ := wp.gives i ρ2 s2 H2 x H3 n2 ok hi hy
      have ed : it.xs.drop i = y :: it.xs.drop (i + 1) := by
        rw [List.drop_eq_getElem_cons hi]
        have : it.xs[i] = y := by
          have z := (List.getElem?_eq_some_iff.mp ey).2
          exact z
        rw [this]
      rw [ed, forM_cons ok] at q2
      cases eg : f y p2 with
      | none => rw [eg] at q2; exact q2.elim
      | some p3 =>
        rw [eg] at q2
        have by_ : y.bd s2.g.length = true := n2.bl (List.all_eq_true.mp rr.bd y (List.mem_of_getElem? ey))
        refine hg.run ρ2 s2 H3 p2 p3 σ2 y x _ n3.rel (sr2.mono n3) by_ r3 eg fun σ3 sr3 _ => ⟨ρ2, p3, s2, n3.rel, sr3, ?_⟩
        have q2 := q2.step n3
        cases eb : b φ p3 s2 with
        | nx p4 s4 =>
          simp only [eb] at q2
          exact fun ρ4 H4 σ4 n4 sr4 => ⟨ρ4, p4, s4, n2.trans (n3.trans n4), sr4, q2.step n4⟩
        | ct p4 s4 =>
          simp only [eb] at q2
          exact fun ρ4 H4 σ4 n4 sr4 => ⟨ρ4, p4, s4, n2.trans (n3.trans n4), sr4, q2.step n4⟩
        | bk p4 s4 => simp only [eb] at q2; exact q2
        | rt v s4 => simp only [eb] at q2; exact q2
        | er C v p4 s4 => simp only [eb] at q2; exact q2
        | bad => simp only [eb] at q2; exact q2
    · rintro σ2 H2 ⟨ρ2, p2, s2, n2, sr2, q2⟩
      have ok := forM_ok q2.nobad
      rw [List.drop_length, forM_nil ok] at q2
      exact q2 ρ2 H2 σ2 (Nx.refl n2.rel) sr2
end
end Bi

end
section
set_option Elab.async false
set_option linter.all false
set_option autoImplicit false
set_option maxRecDepth 100000
set_option maxHeartbeats 1000000
/-! Bi18: comprehensions. -/
namespace Bi
open PySem L2
abbrev W0 : WX := fun _ _ _ _ => False
/-- the context within a comprehension -/
abbrev BX (X : Cx) (scope : Scope) (s : Shared) (H : Hp) (C : Addr) (cl : List (Str × Addr)) (fp : List Addr) : Cx := X.blk s H scope (compEnvC scope cl C X.env) fp
def wipeP (p : Sl) : List Nat → Sl
  | [] => p
  | v :: vs => (wipeP p vs).set v none
theorem wipeP_length (p : Sl) : ∀ vs : List Nat, (wipeP p vs).length = p.length
  | [] => rfl
  | v :: vs => by unfold wipeP; rw [List.length_set, wipeP_length p vs]
theorem wipeP_some {p : Sl} {i : Nat} {x : PV} : ∀ {vs : List Nat}, (wipeP p vs)[i]? = some (some x) → p[i]? = some (some x) ∧ i ∉ vs
  | [], h => ⟨h, by simp⟩
  | v :: vs, h => by
    unfold wipeP at h
    by_cases hi : v = i
    · subst hi
      by_cases hv : v < (wipeP p vs).length
      · rw [List.getElem?_set_self hv] at h; cases h
      · rw [List.getElem?_eq_none (by simpa using hv)] at h; cases h
    · rw [List.getElem?_set_ne hi] at h
      obtain ⟨h1, h2⟩ := wipeP_some h
      exact ⟨h1, by simp only [List.mem_cons, not_or]; exact ⟨fun e => hi e.symm, h2⟩⟩
theorem SRel.wipe {K : PySem.W.Frag} {mg : Str → Option Value} {ρ : Nat → Addr} {s : Sg} {H : Hp} {p : Sl} {σ : L2.St} (h : SRel K mg ρ s H p σ) (vs : List Nat) : SRel K mg ρ s H (wipeP p vs) (wipe σ vs) :=
  ⟨by rw [wipeP_length, wipe_length]; exact h.len, fun i pv e => by
    obtain ⟨e1, e2⟩ := wipeP_some e
    obtain ⟨b, v, e3, r⟩ := h.at_ i pv e1
    exact ⟨b, v, by rw [wipe_out e2]; exact e3, r⟩⟩
theorem wipe_wipe {σ : L2.St} {vs : List Nat} : L2.wipe (L2.wipe σ vs) vs = L2.wipe σ vs := by
  refine List.ext_getElem? fun j => ?_
  by_cases hj : j ∈ vs
  · by_cases hl : j < σ.length
    · rw [wipe_at hj hl, wipe_at hj (by rw [wipe_length]; exact hl)]
    · rw [List.getElem?_eq_none_iff.mpr (by rw [wipe_length, wipe_length]; omega), List.getElem?_eq_none_iff.mpr (by rw [wipe_length]; omega)]
  · rw [wipe_out hj]
/-- some state: what is said of all holds of it -/
def sh0 : Shared := {}
theorem PTs.imp {X : Cx} {e : List Expr} {t t' : TT} (h : PTs X e t) (k : ∀ σ H Q, t' σ H Q → t σ H Q) : PTs X e t' := ⟨fun pins s σ H Q I q => h.run pins s σ H Q I (k σ H Q q)⟩
/-- a clause's tests -/
structure SimTs (X : Cx) (W : WX) (φ : Phi) (t : ME) (ifs : List Expr) : Prop where
  pts : PTs X ifs (tT X.K X.mg W φ t)
  gd : ∀ p s, GdR s (t φ p s)
theorem simts_nil {X : Cx} {W : WX} {φ : Phi} : SimTs X W φ (mC (.bl true)) [] := ⟨PTs.imp pts_nil fun σ H Q h => by
  obtain ⟨ρ, p, s, rel, sr, _, h⟩ := h
  exact h ρ H true (Nx.refl rel) rfl, fun p s => Gd.refl s⟩
theorem simts_one {X : Cx} {W : WX} {φ : Phi} {t : ME} {c : Expr} (h : Sim X W φ t c) : SimTs X W φ t [c] := ⟨pts_one h.pt, h.gd⟩
open Classical in
noncomputable def lcM (it : Wk) (vs : List Nat) (g : PV → Sl → Option Sl) (t e : ME) (d : Nat) (φ : Phi) (p : Sl) : List PV → Sg → R Unit
  | [], s => if it.ok s then .ok () s else .bad
  | x :: xs, s => if it.ok s then (match g x (wipeP p vs) with
    | some p1 => (match t φ p1 s with
      | .ok (.bl true) s1 => (match e φ p1 s1 with
        | .ok v s2 => (match s2.g[d]? with
          | some (.lst acc) => if acc.length < sizeLine then lcM it vs g t e d φ p xs (s2.wr d (.lst (acc ++ [v]))) else .bad
          | _ => .bad)
        | _ => .bad)
      | .ok (.bl false) s1 => lcM it vs g t e d φ p xs s1
      | _ => .bad)
    | none => .bad) else .bad
def unlR : Option Nat → PV → Sg → R PV
  | none, v, s => .ok v s
  | some n, v, s => (match s.g[n]? with | some (.dic kvs true) => .ok v (s.lk n kvs false) | _ => .bad)
noncomputable def mLc (mi : MI) (vs : List Nat) (g : PV → Sl → Option Sl) (t e : ME) : ME := fun φ p s => (mi φ p s).bind fun it s1 => (lcM it vs g t e s1.g.length φ p it.xs (s1.push (.lst []))).bind fun _ s2 => unlR it.unl (.ref s1.g.length) s2
theorem unlR_gd (u : Option Nat) (v : PV) (s : Sg) : GdR s (unlR u v s) := by
  unfold unlR
  split
  · exact Gd.refl _
  · split
    · rename_i e; exact Gd.lk e
    · trivial
section
variable {X : Cx} {W : WX} {φ : Phi} {T : Tab} {k : Nat} {m mt me mk mc mo : ME} {mi : MI} {ml : ML} {e a b c o i tg iter elt kx vx : Expr} {ifs : List Expr} {pos p1 : Pos} {x y z : Str} {scope : Scope} {own : List (Str × Nat)}
theorem lcM_ok {it : Wk} {vs : List Nat} {g : PV → Sl → Option Sl} {d : Nat} {p : Sl} {xs : List PV} {s : Sg} (h : lcM it vs g mt me d φ p xs s ≠ .bad) : it.ok s := by
  cases xs with
  | nil => exact Classical.not_not.mp fun z => h (by unfold lcM; rw [if_neg z])
  | cons x xs => exact Classical.not_not.mp fun z => h (by unfold lcM; rw [if_neg z])
theorem lcM_gd {it : Wk} {vs : List Nat} {g : PV → Sl → Option Sl} {d : Nat} {p : Sl} (ht : ∀ p s, GdR s (mt φ p s)) (he : ∀ p s, GdR s (me φ p s)) : ∀ (xs : List PV) (s : Sg), GdR s (lcM it vs g mt me d φ p xs s)
  | [], s => by
    unfold lcM
    split
    · exact Gd.refl s
    · trivial
  | x :: xs, s => by
    rw [lcM]
    split
    · split
      · rename_i p1 _
        have q1 := ht p1 s
        split
        · rename_i s1 e1
          rw [e1] at q1
          have q2 := he p1 s1
          split
          · rename_i v s2 e2
            rw [e2] at q2
            split
            · split
              · have q3 := lcM_gd (it := it) (vs := vs) (g := g) (d := d) (p := p) ht he xs (s2.wr d (.lst (‹List PV› ++ [v])))
                rename_i acc _ _
                have q3 := lcM_gd (it := it) (vs := vs) (g := g) (d := d) (p := p) ht he xs (s2.wr d (.lst (acc ++ [v])))
                have q4 := Gd.trans q1 (Gd.trans q2 (Gd.wr s2 d (.lst (acc ++ [v]))))
                cases e5 : lcM it vs g mt me d φ p xs (s2.wr d (.lst (acc ++ [v]))) with
                | ok v s' => rw [e5] at q3; exact Gd.trans q4 q3
                | err C v s' => rw [e5] at q3; exact Gd.trans q4 q3
                | bad => trivial
              · trivial
            · trivial
          · trivial
        · rename_i s1 e1
          rw [e1] at q1
          have q3 := lcM_gd (it := it) (vs := vs) (g := g) (d := d) (p := p) ht he xs s1
          cases e5 : lcM it vs g mt me d φ p xs s1 with
          | ok v s' => rw [e5] at q3; exact Gd.trans q1 q3
          | err C v s' => rw [e5] at q3; exact Gd.trans q1 q3
          | bad => trivial
        · trivial
      · trivial
    · trivial
/-- what a block's parts are -/
structure Blk (X : Cx) (φ : Phi) (scope : Scope) (g : TG) (f : PV → Sl → Option Sl) (is : List Nat) (mt : ME) (tg : Expr) (ifs : List Expr) : Prop where
  hg : ∀ (s : Shared) (H : Hp) (C : Addr) (cl : List (Str × Addr)) (fp : List Addr), SimG (BX X scope s H C cl fp) g f is tg
  ht : ∀ (s : Shared) (H : Hp) (C : Addr) (cl : List (Str × Addr)) (fp : List Addr), SimTs (BX X scope s H C cl fp) W0 φ mt ifs
theorem lc_run {g : TG} {f : PV → Sl → Option Sl} {is : List Nat} {σ : L2.St} {H : Hp} {Q : VK} (hi : SimI X W φ mi tg iter) (B : Blk X φ scope g f is mt tg ifs) (his : ∀ i ∈ is, i ∈ own.map (·.2))
    (q : tE X.K X.mg W φ (mLc mi (own.map (·.2)) f mt me) σ H Q) : tLc (tI X W φ mi) g (tT X.K X.mg W0 φ mt) (tE X.K X.mg W0 φ me) (own.map (·.2)) σ H (fun v H1 => ∃ H2, Unl X H1 H2 ∧ Q v H2) := by
  have hgr := (B.hg sh0 H 0 [] []).run
  obtain ⟨ρ, p, s, rel, sr, q⟩ := q
  refine ⟨ρ, p, s, rel, sr, ?_⟩
  have q : PostE X.K X.mg W ρ s H σ Q ((mi φ p s).bind fun it s1 => (lcM it (own.map (·.2)) f mt me s1.g.length φ p it.xs (s1.push (.lst []))).bind fun _ s2 => unlR it.unl (.ref s1.g.length) s2) := q
  cases e : mi φ p s with
  | bad => rw [e] at q; exact q
  | err C v s1 => rw [e] at q; exact q
  | ok it s1 =>
    rw [e] at q
    have q : PostE X.K X.mg W ρ s H σ Q ((lcM it (own.map (·.2)) f mt me s1.g.length φ p it.xs (s1.push (.lst []))).bind fun _ s2 => unlR it.unl (.ref s1.g.length) s2) := q
    intro ρ1 H1 J n1 rr D hD
    obtain ⟨G, Y, wp⟩ := rr.go
    have np := rv_lst_new (vs := []) (us := []) n1.rel hD rfl .nil
    refine lc_it wp.walk (fun i H2 => ∃ ρ2 s2, Nx X.K X.mg (rput ρ1 s1.g.length D) (s1.push (.lst [])) (upd H1 D (.lst [])) ρ2 s2 H2 ∧ PostE X.K X.mg W ρ s H σ Q ((lcM it (own.map (·.2)) f mt me s1.g.length φ p (it.xs.drop i) s2).bind fun _ s2 => unlR it.unl (.ref s1.g.length) s2))
      ⟨_, _, Nx.refl np.rel, q⟩ ?_ ?_ ?_
    · rintro i H2 hi ⟨ρ2, s2, n2, q2⟩
      exact wp.stays ρ2 s2 H2 (np.trans n2) (lcM_ok fun z => by rw [z] at q2; exact q2)
    · rintro i x H2 H3 hi ⟨ρ2, s2, n2, q2⟩ hy
      have ok := lcM_ok (φ := φ) (fun z => by rw [z] at q2; exact q2)
      have n12 := np.trans n2
      obtain ⟨y, ey, n3, r3⟩ := wp.gives i ρ2 s2 H2 x H3 n12 ok hi hy
      have ed : it.xs.drop i = y :: it.xs.drop (i + 1) := by
        rw [List.drop_eq_getElem_cons hi, (List.getElem?_eq_some_iff.mp ey).2]
      rw [ed, lcM, if_pos ok] at q2
      cases eg : f y (wipeP p (own.map (·.2))) with
      | none => rw [eg] at q2; exact q2.elim
      | some p3 =>
        rw [eg] at q2
        simp only at q2
        have by_ : y.bd s2.g.length = true := n12.bl (List.all_eq_true.mp rr.bd y (List.mem_of_getElem? ey))
        have sr3 := ((sr.mono (n1.trans n12)).mono n3).wipe (own.map (·.2))
        refine hgr ρ2 s2 H3 _ p3 _ y x _ n3.rel sr3 by_ r3 eg fun σ3 sr4 hw => ⟨?_, ρ2, p3, s2, n3.rel, sr4, ?_⟩
        · rw [hw _ his]
          exact wipe_wipe
        · cases et : mt φ p3 s2 with
          | bad => rw [et] at q2; exact q2.elim
          | err C v s4 => rw [et] at q2; exact q2.elim
          | ok v s4 =>
            rw [et] at q2
            cases v with
            | bl bb =>
              refine ⟨⟨bb, rfl⟩, fun ρ4 H4 u n4 ru => ?_⟩
              have eb : bb = u := by injection ru
              subst eb
              have n24 := n2.trans (n3.trans n4)
              cases bb with
              | false => exact iteF ⟨ρ4, s4, n24, q2⟩
              | true =>
                simp only at q2
                refine iteT ⟨ρ4, p3, s4, n4.rel, sr4.mono n4, ?_⟩
                cases ee : me φ p3 s4 with
                | bad => rw [ee] at q2; exact q2.elim
                | err C v s5 => rw [ee] at q2; exact q2.elim
                | ok v s5 =>
                  rw [ee] at q2
                  simp only at q2
                  intro ρ5 H5 u n5 ru
                  have n25 := n24.trans n5
                  have hd : s1.g.length < (s1.push (.lst [])).g.length := by show _ < (s1.g ++ [_]).length; simp
                  have eD : ρ5 s1.g.length = D := (n25.agr _ hd).trans rput_eq
                  cases e6 : s5.g[s1.g.length]? with
                  | none => rw [e6] at q2; exact q2.elim
                  | some ob =>
                    rw [e6] at q2
                    cases ob with
                    | lst acc =>
                      simp only at q2
                      by_cases hz : acc.length < sizeLine
                      · rw [if_pos hz] at q2
                        obtain ⟨us, eH, rs⟩ := n5.rel.cell _ _ e6
                        have nw := rel_wr_lst n5.rel e6 (all_append (lst_bd n5.rel e6) (by rw [List.all_cons, ru.1]; rfl)) (paired_append rs (.cons ru.2 .nil))
                        rw [eD] at eH nw
                        exact ⟨us, eH, by rw [← rs.length]; exact hz, ρ5, _, n25.trans nw, q2⟩
                      · rw [if_neg hz] at q2; exact q2.elim
                    | _ => exact q2.elim
            | _ => exact q2.elim
    · rintro H2 ⟨ρ2, s2, n2, q2⟩
      have ok := lcM_ok (φ := φ) (fun z => by rw [z] at q2; exact q2)
      rw [List.drop_length, lcM, if_pos ok] at q2
      have q2 : PostE X.K X.mg W ρ s H σ Q (unlR it.unl (.ref s1.g.length) s2) := q2
      have hd : s1.g.length < (s1.push (.lst [])).g.length := by show _ < (s1.g ++ [_]).length; simp
      have eD : ρ2 s1.g.length = D := (n2.agr _ hd).trans rput_eq
      have n12 := np.trans n2
      have hd2 : s1.g.length < s2.g.length := Nat.lt_of_lt_of_le hd n2.len
      have rD : RV X.K X.mg H2 ρ2 (.ref s1.g.length) (.ref D) := by rw [← eD]; exact .ref _
      cases eu : it.unl with
      | none =>
        rw [eu] at q2
        exact ⟨H2, .inl rfl, q2 ρ2 H2 (.ref D) (n1.trans n12) ⟨by rw [PV.bd]; exact decide_eq_true hd2, rD⟩⟩
      | some n =>
        rw [eu] at q2
        have q2 : PostE X.K X.mg W ρ s H σ Q (match s2.g[n]? with | some (.dic kvs true) => .ok (.ref s1.g.length) (s2.lk n kvs false) | _ => .bad) := q2
        split at q2
        · rename_i kvs e6
          obtain ⟨hn, hx⟩ := rr.unl n eu
          obtain ⟨H3, hu3, n3, k3⟩ := unl_end n1 (hi.nl p s it s1 n e eu) hn hx n12 e6
          refine ⟨H3, hu3, q2 ρ2 H3 (.ref D) n3 ⟨?_, RV.mono (n := s2.g.length) k3 (fun _ _ => rfl) rD (by rw [PV.bd]; exact decide_eq_true hd2)⟩⟩
          rw [PV.bd]
          refine decide_eq_true ?_
          show s1.g.length < (s2.g.set n _).length
          rw [List.length_set]; exact hd2
        · exact q2.elim
theorem mLc_gd (hi : ∀ p s, GdR s (mi φ p s)) (ht : ∀ p s, GdR s (mt φ p s)) (he : ∀ p s, GdR s (me φ p s)) {vs : List Nat} {f : PV → Sl → Option Sl} (p : Sl) (s : Sg) : GdR s (mLc mi vs f mt me φ p s) := by
  refine (hi p s).bind fun it s1 _ => ?_
  have q := lcM_gd (it := it) (vs := vs) (g := f) (d := s1.g.length) (p := p) ht he it.xs (s1.push (.lst []))
  cases e : lcM it vs f mt me s1.g.length φ p it.xs (s1.push (.lst [])) with
  | bad => trivial
  | err C v s2 => rw [e] at q; exact Gd.trans (Gd.push _ _) q
  | ok v s2 =>
    rw [e] at q
    have q2 := unlR_gd it.unl (.ref s1.g.length) s2
    show GdR s1 (unlR it.unl (.ref s1.g.length) s2)
    cases e2 : unlR it.unl (.ref s1.g.length) s2 with
    | bad => trivial
    | ok v s3 => rw [e2] at q2; exact Gd.trans (Gd.trans (Gd.push _ _) q) q2
    | err C v s3 => rw [e2] at q2; exact Gd.trans (Gd.trans (Gd.push _ _) q) q2
theorem sim_lc {g : TG} {f : PV → Sl → Option Sl} {is : List Nat} (hc : X.calm = true) (hN : X.N.Nodup) (hi : SimI X W φ mi tg iter) (ok : BlkOk X.N X.env.scope scope own) (B : Blk X φ scope g f is mt tg ifs) (his : ∀ i ∈ is, i ∈ own.map (·.2))
    (he : ∀ (s : Shared) (H : Hp) (C : Addr) (cl : List (Str × Addr)) (fp : List Addr), Sim (BX X scope s H C cl fp) W0 φ me elt) (hs : ∀ x, foldedSetIterable iter X.env x = pure x) :
    Sim X W φ (mLc mi (own.map (·.2)) f mt me) (.ListComp elt [⟨tg, iter, ifs, 0⟩] scope pos) :=
  Sim.mk1 (PE.imp (pe_un (pe_lc (te := tE X.K X.mg W0 φ me) (tt := tT X.K X.mg W0 φ mt) hc hN hi.pi ok (fun s H C cl fp => (B.hg s H C cl fp).pg) (fun s H C cl fp => (B.ht s H C cl fp).pts) (fun s H C cl fp => (he s H C cl fp).pe) hs)) fun σ H Q q => lc_run hi B his q) (fun _ => rfl)
    (mLc_gd hi.gd (B.ht sh0 (fun _ => none) 0 [] []).gd (he sh0 (fun _ => none) 0 [] []).gd)
/-- name = [.. for .. in ..] -/
theorem sims_setLc {g : TG} {f : PV → Sl → Option Sl} {is : List Nat} {iy : Nat} {y : Str} {py spos : Pos} (hc : X.calm = true) (hN : X.N.Nodup) (hy : X.N[iy]? = some y) (hyl : X.env.scope.names.lookup y = some .local)
    (hsw : swapsWith (.ListComp elt [⟨tg, iter, ifs, 0⟩] scope pos) (some (.Name y py)) spos.line X.env = pure true) (hi : SimI X W φ mi tg iter) (ok : BlkOk X.N X.env.scope scope own) (B : Blk X φ scope g f is mt tg ifs) (his : ∀ i ∈ is, i ∈ own.map (·.2))
    (he : ∀ (s : Shared) (H : Hp) (C : Addr) (cl : List (Str × Addr)) (fp : List Addr), Sim (BX X scope s H C cl fp) W0 φ me elt) (hs : ∀ x, foldedSetIterable iter X.env x = pure x) :
    SimS X W φ (mSet iy (mLc mi (own.map (·.2)) f mt me)) (.Assign [.Name y py] (.ListComp elt [⟨tg, iter, ifs, 0⟩] scope pos) spos) := by
  have gd := mLc_gd (vs := own.map (·.2)) (f := f) hi.gd (B.ht sh0 (fun _ => none) 0 [] []).gd (he sh0 (fun _ => none) 0 [] []).gd
  refine ⟨PS.imp (ps_un (ps_setLc (te := tE X.K X.mg W0 φ me) (tt := tT X.K X.mg W0 φ mt) hc hN hy hyl hsw hi.pi ok (fun s H C cl fp => (B.hg s H C cl fp).pg) (fun s H C cl fp => (B.ht s H C cl fp).pts) (fun s H C cl fp => (he s H C cl fp).pe) hs)) fun D σ H q => ?_, fun p s => GdS.of (gd p s) fun v s' _ => Gd.refl s'⟩
  obtain ⟨ρ, p, s, rel, sr, q⟩ := q
  have q2 : tE X.K X.mg W φ (mLc mi (own.map (·.2)) f mt me) σ H (fun v H1 => D.nx (σ.set iy (some v)) H1) := tES rel sr q fun v s1 ρ1 H1 u e1 n1 b1 r1 sr1 h1 => h1 ρ1 H1 _ (Nx.refl n1.rel) (sr1.set b1 r1)
  exact lc_run hi B his q2
/-! ### {k: v for .. in ..} -/
open Classical in
noncomputable def dcM (it : Wk) (vs : List Nat) (g : PV → Sl → Option Sl) (t ek e : ME) (d : Nat) (φ : Phi) (p : Sl) : List PV → Sg → R Unit
  | [], s => if it.ok s then .ok () s else .bad
  | x :: xs, s => if it.ok s then (match g x (wipeP p vs) with
    | some p1 => (match t φ p1 s with
      | .ok (.bl true) s1 => (match ek φ p1 s1 with
        | .ok kv s2 => (match e φ p1 s2 with
          | .ok v s3 => (match s3.g[d]? with
            | some (.dic kvs false) => (match keyOf kv with
              | some kk => if kvs.length < sizeLine then dcM it vs g t ek e d φ p xs (s3.wr d (.dic (dPut kvs kk v) false)) else .bad
              | none => .bad)
            | _ => .bad)
          | _ => .bad)
        | _ => .bad)
      | .ok (.bl false) s1 => dcM it vs g t ek e d φ p xs s1
      | _ => .bad)
    | none => .bad) else .bad
noncomputable def mDc (mi : MI) (vs : List Nat) (g : PV → Sl → Option Sl) (t ek e : ME) : ME := fun φ p s => (mi φ p s).bind fun it s1 => (dcM it vs g t ek e s1.g.length φ p it.xs (s1.push (.dic [] false))).bind fun _ s2 => unlR it.unl (.ref s1.g.length) s2
theorem dcM_ok {it : Wk} {vs : List Nat} {g : PV → Sl → Option Sl} {d : Nat} {p : Sl} {xs : List PV} {s : Sg} (h : dcM it vs g mt mk me d φ p xs s ≠ .bad) : it.ok s := by
  cases xs with
  | nil => exact Classical.not_not.mp fun z => h (by unfold dcM; rw [if_neg z])
  | cons x xs => exact Classical.not_not.mp fun z => h (by unfold dcM; rw [if_neg z])
theorem gdR_trans {α : Type} {s s' : Sg} {r : R α} (h : Gd s s') (k : GdR s' r) : GdR s r := by
  cases r with
  | ok v s2 => exact Gd.trans h k
  | err C v s2 => exact Gd.trans h k
  | bad => trivial
theorem dcM_gd {it : Wk} {vs : List Nat} {g : PV → Sl → Option Sl} {d : Nat} {p : Sl} (ht : ∀ p s, GdR s (mt φ p s)) (hk : ∀ p s, GdR s (mk φ p s)) (he : ∀ p s, GdR s (me φ p s)) : ∀ (xs : List PV) (s : Sg), GdR s (dcM it vs g mt mk me d φ p xs s)
  | [], s => by
    unfold dcM
    split
    · exact Gd.refl s
    · trivial
  | x :: xs, s => by
    rw [dcM]
    split
    · split
      · rename_i p1 _
        have q1 := ht p1 s
        split
        · rename_i s1 e1
          rw [e1] at q1
          have q2 := hk p1 s1
          split
          · rename_i kv s2 e2
            rw [e2] at q2
            have q3 := he p1 s2
            split
            · rename_i v s3 e3
              rw [e3] at q3
              split
              · split
                · split
                  · exact gdR_trans (Gd.trans q1 (Gd.trans q2 (Gd.trans q3 (Gd.wr s3 d _)))) (dcM_gd ht hk he xs _)
                  · trivial
                · trivial
              · trivial
            · trivial
          · trivial
        · rename_i s1 e1
          rw [e1] at q1
          exact gdR_trans q1 (dcM_gd ht hk he xs s1)
        · trivial
      · trivial
    · trivial
theorem mDc_gd (hi : ∀ p s, GdR s (mi φ p s)) (ht : ∀ p s, GdR s (mt φ p s)) (hk : ∀ p s, GdR s (mk φ p s)) (he : ∀ p s, GdR s (me φ p s)) {vs : List Nat} {f : PV → Sl → Option Sl} (p : Sl) (s : Sg) : GdR s (mDc mi vs f mt mk me φ p s) :=
  (hi p s).bind fun it s1 _ => (gdR_trans (Gd.push _ _) (dcM_gd (it := it) (vs := vs) (g := f) (d := s1.g.length) (p := p) ht hk he it.xs (s1.push (.dic [] false)))).bind fun _ s2 _ => unlR_gd _ _ _
theorem dc_it {J : It} {n : Nat} {G : Hp → Prop} {Y : Nat → Hp → V → Hp → Prop} (w : Walk J n G Y) {g : TG} {tt : TT} {tk tv : TE} {vs : List Nat} {σ : L2.St} {H1 : Hp} {D : Addr} {Qd : Hp → Prop} (Pv : Nat → Hp → Prop) (h0 : Pv 0 (upd H1 D (.dK []))) (hG : ∀ i H, i ≤ n → Pv i H → G H)
    (hs : ∀ i x H H', i < n → Pv i H → Y i H x H' → g x (wipe σ vs) H' fun σ2 H2 => wipe σ2 vs = wipe σ vs ∧ tt σ2 H2 fun b H3 =>
      if b = true then tk σ2 H3 fun y H4 => tv σ2 H4 fun z H5 => ∃ kvs k, y = kV k ∧ H5 D = some (.dK kvs) ∧ kvs.length < sizeLine ∧ Pv (i + 1) (upd H5 D (.dK (putK kvs k z))) else Pv (i + 1) H3) (hd : ∀ H, Pv n H → Qd H) :
    ∃ W : Nat → Nat → Hp → Prop, (∃ m, W 0 m (upd H1 D (.dK []))) ∧ ∀ i m H, W i m H →
      (J.stop i H ∧ Qd H) ∨ (J.go i H ∧ ∃ Nx : Hp → Prop, (∀ H', Nx H' → ∃ m', m' < m ∧ W (i + 1) m' H') ∧ ∀ x H', J.yld i H x H' → g x (wipe σ vs) H' fun σ2 H2 => wipe σ2 vs = wipe σ vs ∧ tt σ2 H2 fun b H3 =>
        if b = true then tk σ2 H3 fun y H4 => tv σ2 H4 fun z H5 => ∃ kvs k, y = kV k ∧ H5 D = some (.dK kvs) ∧ kvs.length < sizeLine ∧ Nx (upd H5 D (.dK (putK kvs k z))) else Nx H3) := by
  refine ⟨fun i m H => m = n - i ∧ i ≤ n ∧ Pv i H, ⟨n, by simp, Nat.zero_le _, h0⟩, ?_⟩
  rintro i m H ⟨rfl, hi, p⟩
  have q := hG i H hi p
  by_cases hlt : i < n
  · refine .inr ⟨w.goes i H hlt q, Pv (i + 1), fun H' p' => ⟨n - (i + 1), by omega, rfl, hlt, p'⟩, fun x H' y => hs i x H H' hlt p (w.yields i H x H' hlt q y)⟩
  · have e : i = n := by omega
    subst e
    exact .inl ⟨w.stops H q, hd H p⟩
theorem dc_run {g : TG} {f : PV → Sl → Option Sl} {is : List Nat} {σ : L2.St} {H : Hp} {Q : VK} (hi : SimI X W φ mi tg iter) (B : Blk X φ scope g f is mt tg ifs) (his : ∀ i ∈ is, i ∈ own.map (·.2))
    (q : tE X.K X.mg W φ (mDc mi (own.map (·.2)) f mt mk me) σ H Q) : tDc (tI X W φ mi) g (tT X.K X.mg W0 φ mt) (tE X.K X.mg W0 φ mk) (tE X.K X.mg W0 φ me) (own.map (·.2)) σ H (fun v H1 => ∃ H2, Unl X H1 H2 ∧ Q v H2) := by
  have hgr := (B.hg sh0 H 0 [] []).run
  obtain ⟨ρ, p, s, rel, sr, q⟩ := q
  refine ⟨ρ, p, s, rel, sr, ?_⟩
  have q : PostE X.K X.mg W ρ s H σ Q ((mi φ p s).bind fun it s1 => (dcM it (own.map (·.2)) f mt mk me s1.g.length φ p it.xs (s1.push (.dic [] false))).bind fun _ s2 => unlR it.unl (.ref s1.g.length) s2) := q
  cases e : mi φ p s with
  | bad => rw [e] at q; exact q
  | err C v s1 => rw [e] at q; exact q
  | ok it s1 =>
    rw [e] at q
    have q : PostE X.K X.mg W ρ s H σ Q ((dcM it (own.map (·.2)) f mt mk me s1.g.length φ p it.xs (s1.push (.dic [] false))).bind fun _ s2 => unlR it.unl (.ref s1.g.length) s2) := q
    intro ρ1 H1 J n1 rr D hD
    obtain ⟨G, Y, wp⟩ := rr.go
    have np := rv_dic_new (kvs := []) (ws := []) n1.rel hD rfl .nil
    refine dc_it wp.walk (fun i H2 => ∃ ρ2 s2, Nx X.K X.mg (rput ρ1 s1.g.length D) (s1.push (.dic [] false)) (upd H1 D (.dK [])) ρ2 s2 H2 ∧ PostE X.K X.mg W ρ s H σ Q ((dcM it (own.map (·.2)) f mt mk me s1.g.length φ p (it.xs.drop i) s2).bind fun _ s2 => unlR it.unl (.ref s1.g.length) s2))
      ⟨_, _, Nx.refl np.rel, q⟩ ?_ ?_ ?_
    · rintro i H2 hi ⟨ρ2, s2, n2, q2⟩
      exact wp.stays ρ2 s2 H2 (np.trans n2) (dcM_ok fun z => by rw [z] at q2; exact q2)
    · rintro i x H2 H3 hi ⟨ρ2, s2, n2, q2⟩ hy
      have ok := dcM_ok (φ := φ) (fun z => by rw [z] at q2; exact q2)
      have n12 := np.trans n2
      obtain ⟨y, ey, n3, r3⟩ := wp.gives i ρ2 s2 H2 x H3 n12 ok hi hy
      have ed : it.xs.drop i = y :: it.xs.drop (i + 1) := by
        rw [List.drop_eq_getElem_cons hi, (List.getElem?_eq_some_iff.mp ey).2]
      rw [ed, dcM, if_pos ok] at q2
      cases eg : f y (wipeP p (own.map (·.2))) with
      | none => rw [eg] at q2; exact q2.elim
      | some p3 =>
        rw [eg] at q2
        simp only at q2
        have by_ : y.bd s2.g.length = true := n12.bl (List.all_eq_true.mp rr.bd y (List.mem_of_getElem? ey))
        have sr3 := ((sr.mono (n1.trans n12)).mono n3).wipe (own.map (·.2))
        refine hgr ρ2 s2 H3 _ p3 _ y x _ n3.rel sr3 by_ r3 eg fun σ3 sr4 hw => ⟨?_, ρ2, p3, s2, n3.rel, sr4, ?_⟩
        · rw [hw _ his]
          exact wipe_wipe
        · cases et : mt φ p3 s2 with
          | bad => rw [et] at q2; exact q2.elim
          | err C v s4 => rw [et] at q2; exact q2.elim
          | ok v s4 =>
            rw [et] at q2
            cases v with
            | bl bb =>
              refine ⟨⟨bb, rfl⟩, fun ρ4 H4 u n4 ru => ?_⟩
              have eb : bb = u := by injection ru
              subst eb
              have n24 := n2.trans (n3.trans n4)
              cases bb with
              | false => exact iteF ⟨ρ4, s4, n24, q2⟩
              | true =>
                simp only at q2
                refine iteT ⟨ρ4, p3, s4, n4.rel, sr4.mono n4, ?_⟩
                cases ek : mk φ p3 s4 with
                | bad => rw [ek] at q2; exact q2.elim
                | err C v s5 => rw [ek] at q2; exact q2.elim
                | ok kv s5 =>
                  rw [ek] at q2
                  simp only at q2
                  intro ρ5 H5 uk n5 rk
                  refine ⟨ρ5, p3, s5, n5.rel, (sr4.mono n4).mono n5, ?_⟩
                  cases ee : me φ p3 s5 with
                  | bad => rw [ee] at q2; exact q2.elim
                  | err C v s6 => rw [ee] at q2; exact q2.elim
                  | ok v s6 =>
                    rw [ee] at q2
                    simp only at q2
                    intro ρ6 H6 u n6 ru
                    have n26 := (n24.trans n5).trans n6
                    have hd : s1.g.length < (s1.push (.dic [] false)).g.length := by show _ < (s1.g ++ [_]).length; simp
                    have eD : ρ6 s1.g.length = D := (n26.agr _ hd).trans rput_eq
                    cases e6 : s6.g[s1.g.length]? with
                    | none => rw [e6] at q2; exact q2.elim
                    | some ob =>
                      rw [e6] at q2
                      cases ob with
                      | dic kvs lk =>
                        cases lk with
                        | true => exact q2.elim
                        | false =>
                          simp only at q2
                          cases e7 : keyOf kv with
                          | none => rw [e7] at q2; exact q2.elim
                          | some kk =>
                            rw [e7] at q2
                            simp only at q2
                            by_cases hz : kvs.length < sizeLine
                            · rw [if_pos hz] at q2
                              obtain ⟨us, eH, rs⟩ := n6.rel.cell _ _ e6
                              have nw := rel_wr_dic n6.rel e6 (dPut_bd (n6.rel.wf _ _ e6) ru.1) (dPut_rv (k := kk) ru.2 rs)
                              rw [eD] at eH nw
                              exact ⟨us, kk, keyOf_rv e7 rk.2, eH, by rw [← rs.length]; exact hz, ρ6, _, n26.trans nw, q2⟩
                            · rw [if_neg hz] at q2; exact q2.elim
                      | _ => exact q2.elim
            | _ => exact q2.elim
    · rintro H2 ⟨ρ2, s2, n2, q2⟩
      have ok := dcM_ok (φ := φ) (fun z => by rw [z] at q2; exact q2)
      rw [List.drop_length, dcM, if_pos ok] at q2
      have q2 : PostE X.K X.mg W ρ s H σ Q (unlR it.unl (.ref s1.g.length) s2) := q2
      have hd : s1.g.length < (s1.push (.dic [] false)).g.length := by show _ < (s1.g ++ [_]).length; simp
      have eD : ρ2 s1.g.length = D := (n2.agr _ hd).trans rput_eq
      have n12 := np.trans n2
      have hd2 : s1.g.length < s2.g.length := Nat.lt_of_lt_of_le hd n2.len
      have rD : RV X.K X.mg H2 ρ2 (.ref s1.g.length) (.ref D) := by rw [← eD]; exact .ref _
      cases eu : it.unl with
      | none =>
        rw [eu] at q2
        exact ⟨H2, .inl rfl, q2 ρ2 H2 (.ref D) (n1.trans n12) ⟨by rw [PV.bd]; exact decide_eq_true hd2, rD⟩⟩
      | some n =>
        rw [eu] at q2
        have q2 : PostE X.K X.mg W ρ s H σ Q (match s2.g[n]? with | some (.dic kvs true) => .ok (.ref s1.g.length) (s2.lk n kvs false) | _ => .bad) := q2
        split at q2
        · rename_i kvs e6
          obtain ⟨hn, hx⟩ := rr.unl n eu
          obtain ⟨H3, hu3, n3, k3⟩ := unl_end n1 (hi.nl p s it s1 n e eu) hn hx n12 e6
          refine ⟨H3, hu3, q2 ρ2 H3 (.ref D) n3 ⟨?_, RV.mono (n := s2.g.length) k3 (fun _ _ => rfl) rD (by rw [PV.bd]; exact decide_eq_true hd2)⟩⟩
          rw [PV.bd]
          refine decide_eq_true ?_
          show s1.g.length < (s2.g.set n _).length
          rw [List.length_set]; exact hd2
        · exact q2.elim
theorem sim_dc {g : TG} {f : PV → Sl → Option Sl} {is : List Nat} (hc : X.calm = true) (hN : X.N.Nodup) (hi : SimI X W φ mi tg iter) (ok : BlkOk X.N X.env.scope scope own) (B : Blk X φ scope g f is mt tg ifs) (his : ∀ i ∈ is, i ∈ own.map (·.2))
    (hk : ∀ (s : Shared) (H : Hp) (C : Addr) (cl : List (Str × Addr)) (fp : List Addr), Sim (BX X scope s H C cl fp) W0 φ mk kx)
    (he : ∀ (s : Shared) (H : Hp) (C : Addr) (cl : List (Str × Addr)) (fp : List Addr), Sim (BX X scope s H C cl fp) W0 φ me vx) (hs : ∀ x, foldedSetIterable iter X.env x = pure x) :
    Sim X W φ (mDc mi (own.map (·.2)) f mt mk me) (.DictComp kx vx [⟨tg, iter, ifs, 0⟩] scope pos) :=
  Sim.mk1 (PE.imp (pe_un (pe_dc (tk := tE X.K X.mg W0 φ mk) (tv := tE X.K X.mg W0 φ me) (tt := tT X.K X.mg W0 φ mt) hc hN hi.pi ok (fun s H C cl fp => (B.hg s H C cl fp).pg) (fun s H C cl fp => (B.ht s H C cl fp).pts) (fun s H C cl fp => (hk s H C cl fp).pe) (fun s H C cl fp => (he s H C cl fp).pe) hs)) fun σ H Q q => dc_run hi B his q) (fun _ => rfl)
    (mDc_gd hi.gd (B.ht sh0 (fun _ => none) 0 [] []).gd (hk sh0 (fun _ => none) 0 [] []).gd (he sh0 (fun _ => none) 0 [] []).gd)
end
end Bi

end
section
set_option Elab.async false
set_option linter.all false
set_option autoImplicit false
set_option maxRecDepth 100000
set_option maxHeartbeats 1000000
/-! Bi19: repr; dict.get; displays with a star; dict displays; list of items, of zip, of range; an index in a constant. -/
namespace Bi
open PySem L2
/-! ### repr -/
mutual
theorem dp_nodict {K : PySem.W.Frag} {H : Hp} : ∀ {d : PyData} {v : V}, Dp K H v d → d.hasDict = false
  | .none, _, _ => by simp only [PyData.hasDict]
  | .bool _, _, _ => by simp only [PyData.hasDict]
  | .int _, _, _ => by simp only [PyData.hasDict]
  | .str _, _, _ => by simp only [PyData.hasDict]
  | .list ds, _, h => by
    cases h with
    | lst _ ha => simp only [PyData.hasDict]; exact dpAll_nodict ha
  | .tuple ds, _, h => by
    cases h with
    | tup _ ha => simp only [PyData.hasDict]; exact dpAll_nodict ha
  | .dict _, _, h => by cases h
theorem dpAll_nodict {K : PySem.W.Frag} {H : Hp} : ∀ {ds : List PyData} {vs : List V}, DpAll K H vs ds → PyData.hasDictAll ds = false
  | [], _, _ => by simp only [PyData.hasDictAll]
  | d :: ds, _, h => by
    cases h with
    | cons h t => simp only [PyData.hasDictAll, dp_nodict h, dpAll_nodict t]; rfl
end
def rRepr (K : PySem.W.Frag) : List V → Hp → VK → Prop := fun xs H Q => ∃ v d, xs = [v] ∧ Dp K H v d ∧ d.showable = true ∧ d.depth ≤ dD ∧ d.shown.length ≤ sizeLine ∧ Q (.str d.shown) H
theorem callr_repr {X : Cx} (hg : X.A.guards = some []) (hu : X.A.units + 65 < cLine) : CallR X (.builtin "repr") (rRepr X.K) := by
  intro pins s σ H xs us Q I r h
  obtain ⟨v, d, rfl, hd, hs, hdp, hz, q⟩ := h
  obtain ⟨u, rfl, ru⟩ := vals1 r
  obtain ⟨as, rd⟩ := Dp.reads I d v u hd ru
  cases hd with
  | non => cases ru; exact P.repr_of_none ⟨.str (PyData.none.shown), H, I.tok _, ⟨_, rfl⟩, q⟩
  | bl b => cases ru; exact P.repr_of_bool ⟨.str ((PyData.bool b).shown), H, I.tok _, ⟨_, by cases b <;> rfl⟩, q⟩
  | int i =>
    obtain ⟨t, rfl⟩ := ru
    exact P.repr_of_int (of_decide_eq_true hs) ⟨.str ((PyData.int i).shown), H, I.tok _, ⟨_, rfl⟩, q⟩
  | str z =>
    obtain ⟨t, rfl⟩ := ru
    exact P.repr_of_str ⟨.str ((PyData.str z).shown), H, I.tok _, ⟨_, rfl⟩, q⟩ hz
  | lst ha hb =>
    cases ru
    exact repr_of_reads' rd hs (PyData.noDict_hsm (dp_nodict (.lst ha hb))) hg (by unfold dD at hdp; omega) (fun _ _ e => e) (fun h' u tk hk => ⟨.str _, H, I.kept (t' := tk) hk, ⟨_, rfl⟩, q⟩) hz
  | tup ha hb =>
    cases ru
    exact repr_of_reads' rd hs (PyData.noDict_hsm (dp_nodict (.tup ha hb))) hg (by unfold dD at hdp; omega) (fun _ _ e => e) (fun h' u tk hk => ⟨.str _, H, I.kept (t' := tk) hk, ⟨_, rfl⟩, q⟩) hz
def vRepr : List PV → Sg → R PV
  | [v], s => (match toD s dD v with
    | some d => if (d.showable && decide (d.depth ≤ dD)) && decide (d.shown.length ≤ sizeLine) then .ok (.str d.shown) s else .bad
    | none => .bad)
  | _, _ => .bad
section
variable {K : PySem.W.Frag} {mg : Str → Option Value}
theorem vr_repr : VRL K mg vRepr (rRepr K) where
  run := fun W ρ s H σ a x Q rel b r h => by
    unfold vRepr at h
    split at h
    · rename_i v
      cases r with
      | cons r1 t =>
        cases t
        cases e : toD s dD v with
        | none => rw [e] at h; exact h.elim
        | some d =>
          rw [e] at h
          simp only at h
          by_cases c : ((d.showable && decide (d.depth ≤ dD)) && decide (d.shown.length ≤ sizeLine)) = true
          · rw [if_pos c] at h
            obtain ⟨c1, c2⟩ := Bool.and_eq_true_iff.mp c
            obtain ⟨c3, c4⟩ := Bool.and_eq_true_iff.mp c1
            exact ⟨_, d, rfl, dp_of rel dD v _ d e r1, c3, of_decide_eq_true c4, of_decide_eq_true c2, post_ok h (Nx.refl rel) (by rw [PV.bd]) (.str _)⟩
          · rw [if_neg c] at h; exact h.elim
    · exact h.elim
  gd := fun a s => by
    unfold vRepr
    split
    · split
      · split
        · exact Gd.refl _
        · trivial
      · trivial
    · trivial
end
end Bi

end
section
set_option Elab.async false
set_option linter.all false
set_option autoImplicit false
set_option maxRecDepth 100000
set_option maxHeartbeats 1000000
/-! Bi20: list(zip(a, b)) of two lists. -/
namespace Bi
open PySem PySem.Spec PyProof.Rows
theorem zip_no_len : typeLookup (.type "zip") "__len__" = pure none := am_miss_of_fast (by decide +kernel)
theorem zip_no_hint : typeLookup (.type "zip") "__length_hint__" = pure none := am_miss_of_fast (by decide +kernel)
/-- the zip at z as it stands at turn i; the list at S apart -/
structure ZSt (z TI TO i1 i2 l1 l2 S : Addr) (xs ys : Array Value) (i : Nat) (h : Heap) : Prop where
  ti : IsPair h TI (.ref i1) (.ref i2)
  it1 : h.IsListIter i1 l1 i
  it2 : h.IsListIter i2 l2 i
  ls1 : h.IsList l1 xs
  ls2 : h.IsList l2 ys
  zp : (IsZip h z TI TO .none ∧ ∃ a b, IsPair h TO a b) ∨ ∃ T f oT, IsZipHeld h z TI TO T f ∧ h.get? T = some oT ∧ T ≠ z ∧ T ≠ i1 ∧ T ≠ i2 ∧ T ≠ S
section
variable {prog : Program} {w : World} {A : Around} {E : Value → Shared → Prop} {s : Shared} {R : Result → Shared → Prop} {z TI TO i1 i2 l1 l2 S : Addr} {xs ys : Array Value}
/-- what is apart from the list -/
structure ZOff (z TI TO i1 i2 l1 l2 S : Addr) : Prop where
  z : z ≠ S
  ti : TI ≠ S
  to : TO ≠ S
  i1 : i1 ≠ S
  i2 : i2 ≠ S
  l1 : l1 ≠ S
  l2 : l2 ≠ S
theorem ZSt.keep {i : Nat} {h h' : Heap} (D : ZOff z TI TO i1 i2 l1 l2 S) (x : ZSt z TI TO i1 i2 l1 l2 S xs ys i h) (k : ∀ b o, b ≠ S → h.get? b = some o → h'.get? b = some o) : ZSt z TI TO i1 i2 l1 l2 S xs ys i h' := by
  refine ⟨k _ _ D.ti x.ti, x.it1.at fun o e => k _ o D.i1 e, x.it2.at fun o e => k _ o D.i2 e, x.ls1.at fun o e => k _ o D.l1 e, x.ls2.at fun o e => k _ o D.l2 e, ?_⟩
  rcases x.zp with ⟨h1, a, b, h2⟩ | ⟨T, f, oT, h1, h2, r1, r2, r3, r4⟩
  · exact .inl ⟨k _ _ D.z h1, a, b, k _ _ D.to h2⟩
  · exact .inr ⟨T, f, oT, k _ _ D.z h1, k _ _ r4 h2, r1, r2, r3, r4⟩
theorem zst_item {i : Nat} {x y : Value} {Q : Option Value → Shared → Prop} (D : ZipApart z TI TO i1 i2 l1 l2) (hS : S < s.heap.objs.size) (st : ZSt z TI TO i1 i2 l1 l2 S xs ys i s.heap) (hx : xs[i]? = some x) (hy : ys[i]? = some y)
    (hQ : ∀ h', ZSt z TI TO i1 i2 l1 l2 S xs ys (i + 1) h' → h'.get? s.heap.objs.size = some { cls := .type "tuple", data := .seq #[x, y] } → h'.objs.size = s.heap.objs.size + 1 →
      (∀ c o, c ≠ z → c ≠ TO → c ≠ i1 → c ≠ i2 → s.heap.get? c = some o → h'.get? c = some o) → Q (some (.ref s.heap.objs.size)) { s with heap := h' }) : wpAny (model prog w) A (pyNext (.ref z)) Q E s := by
  have lt : ∀ {c o}, s.heap.get? c = some o → s.heap.objs.size ≠ c := fun e => Nat.ne_of_gt (Heap.lt_size e)
  have n1 : s.heap.objs.size ≠ i1 := by obtain ⟨_, e, _⟩ := st.it1; exact lt e
  have n2 : s.heap.objs.size ≠ i2 := by obtain ⟨_, e, _⟩ := st.it2; exact lt e
  rcases st.zp with ⟨h1, a, b, h2⟩ | ⟨T, f, oT, h1, h2, r1, r2, r3, r4⟩
  · refine wpAny_pyNext_zip_item D h1 st.ti h2 st.it1 st.it2 st.ls1 st.ls2 hx hy fun h' a1 a2 a3 a4 a5 a6 hk => ?_
    exact hQ h' ⟨hk _ _ D.TIz D.TITO D.TIi1 D.TIi2 st.ti, a3, a4, st.ls1.at fun o e => hk _ o D.l1z D.l1TO D.l1i1 D.l1i2 e, st.ls2.at fun o e => hk _ o D.l2z D.l2TO D.l2i1 D.l2i2 e,
      .inr ⟨s.heap.objs.size, false, _, a1, a5, lt h1, n1, n2, Nat.ne_of_gt hS⟩⟩ a5 a6 hk
  · refine wpAny_pyNext_zip_item_held D h1 h2 st.ti st.it1 st.it2 st.ls1 st.ls2 hx hy fun h' a1 a3 a4 a5 a6 hk => ?_
    exact hQ h' ⟨hk _ _ D.TIz D.TIi1 D.TIi2 st.ti, a3, a4, st.ls1.at fun o e => hk _ o D.l1z D.l1i1 D.l1i2 e, st.ls2.at fun o e => hk _ o D.l2z D.l2i1 D.l2i2 e, .inr ⟨T, true, oT, a1, hk _ _ r1 r2 r3 h2, r1, r2, r3, r4⟩⟩ a5 a6 fun c o c1 _ c3 c4 e => hk c o c1 c3 c4 e
theorem zst_done {i : Nat} {Q : Option Value → Shared → Prop} (hh : A.handled = none) (D : ZipApart z TI TO i1 i2 l1 l2) (st : ZSt z TI TO i1 i2 l1 l2 S xs ys i s.heap) (hend : xs[i]? = none ∨ ys[i]? = none)
    (hQ : ∀ h', (∀ c o, c ≠ z → c ≠ TO → c ≠ i1 → c ≠ i2 → s.heap.get? c = some o → h'.get? c = some o) → Q none { s with heap := h' }) : wpAny (model prog w) A (pyNext (.ref z)) Q E s := by
  rcases st.zp with ⟨h1, a, b, h2⟩ | ⟨T, f, oT, h1, h2, r1, r2, r3, r4⟩
  · exact wpAny_pyNext_zip_end hh D h1 st.ti h2 st.it1 st.it2 st.ls1 st.ls2 hend fun h' hk => hQ h' hk
  · exact wpAny_pyNext_zip_end_held hh D h1 h2 st.ti st.it1 st.it2 st.ls1 st.ls2 hend fun h' hk => hQ h' fun c o c1 _ c3 c4 e => hk c o c1 c3 c4 e
/-- the tuples that were made -/
structure ZG (xs ys : Array Value) (lo : Addr) (h : Heap) (as : List Addr) : Prop where
  rise : as.Pairwise (· < ·)
  above : ∀ a ∈ as, lo ≤ a
  pairs : ∀ (j : Nat) (a : Addr), as[j]? = some a → ∃ x y, xs[j]? = some x ∧ ys[j]? = some y ∧ h.get? a = some { cls := .type "tuple", data := .seq #[x, y] }
theorem ZG.keep {lo : Addr} {h h' : Heap} {as : List Addr} (g : ZG xs ys lo h as) (k : ∀ b o, lo ≤ b → h.get? b = some o → h'.get? b = some o) : ZG xs ys lo h' as :=
  ⟨g.rise, g.above, fun j a e => by
    obtain ⟨x, y, h1, h2, h3⟩ := g.pairs j a e
    exact ⟨x, y, h1, h2, k _ _ (g.above a (List.mem_of_getElem? e)) h3⟩⟩
/-- all that is turned lies below lo -/
structure ZLow (z TI TO i1 i2 S lo : Addr) : Prop where
  z : z < lo
  to : TO < lo
  i1 : i1 < lo
  i2 : i2 < lo
  s : S < lo
theorem lz_loop {lo : Addr} (hh : A.handled = none) (D : ZipApart z TI TO i1 i2 l1 l2) (O : ZOff z TI TO i1 i2 l1 l2 S) (L : ZLow z TI TO i1 i2 S lo) (res : Value) {h₁ : Heap}
    (hz : min xs.size ys.size ≤ sizeLine)
    (hR : ∀ h' acc c as, (∀ b o, b ≠ S → b ≠ z → b ≠ TO → b ≠ i1 → b ≠ i2 → h₁.get? b = some o → h'.get? b = some o) → h'.get? S = some { cls := .type "list", dict := none, data := .seq acc c, slots := #[] } → as.length = min xs.size ys.size → ZG xs ys lo h' as →
      acc.toList = as.map Value.ref → R (.ok (.ret res)) { s with heap := h' }) :
    ∀ (k i : Nat) (h : Heap) (c : Nat) (acc : Array Value) (as : List Addr), min xs.size ys.size - i = k → i ≤ min xs.size ys.size → ZSt z TI TO i1 i2 l1 l2 S xs ys i h → (∀ b o, b ≠ S → b ≠ z → b ≠ TO → b ≠ i1 → b ≠ i2 → h₁.get? b = some o → h.get? b = some o) →
      h.get? S = some { cls := .type "list", dict := none, data := .seq acc c, slots := #[] } → acc.toList = as.map Value.ref → as.length = i → ZG xs ys lo h as → lo ≤ h.objs.size →
      codeAny (model prog w) A (.builtin "list.extend.loop" ⟨[.ref S, .ref z, res], []⟩) R { s with heap := h } := by
  intro k
  induction k with
  | zero =>
    intro i h c acc as hk hi st hkeep hS hacc hal hG hlo
    have hin : i = min xs.size ys.size := by omega
    refine codeAny_builtin PySem.F.entry_extend_loop ?_
    rw [Around.under_plainId PySem.F.plain_extend_loop _]
    show wpAny _ A.in1 (pyNext (.ref z) >>= _) _ _ _
    refine wpAny_bind (zst_done (s := { s with heap := h }) (A := A.in1) hh D st ?_ fun h' he => ?_)
    · rcases Nat.le_total xs.size ys.size with q | q
      · exact .inl (Array.getElem?_eq_none (by omega))
      · exact .inr (Array.getElem?_eq_none (by omega))
    · refine wpAny_pure (hR h' acc c as (fun b o e1 e2 e3 e4 e5 e => he b o e2 e3 e4 e5 (hkeep b o e1 e2 e3 e4 e5 e)) (he S _ (Ne.symm O.z) (Ne.symm O.to) (Ne.symm O.i1) (Ne.symm O.i2) hS) (by omega) (hG.keep fun b o hb e => ?_) hacc)
      exact he b o (Nat.ne_of_gt (Nat.lt_of_lt_of_le L.z hb)) (Nat.ne_of_gt (Nat.lt_of_lt_of_le L.to hb)) (Nat.ne_of_gt (Nat.lt_of_lt_of_le L.i1 hb)) (Nat.ne_of_gt (Nat.lt_of_lt_of_le L.i2 hb)) e
  | succ k ih =>
    intro i h c acc as hk hi st hkeep hS hacc hal hG hlo
    have hix : i < xs.size := by omega
    have hiy : i < ys.size := by omega
    have ex := Array.getElem?_eq_getElem hix
    have ey := Array.getElem?_eq_getElem hiy
    have hsz : acc.size = i := by rw [← Array.length_toList, hacc, List.length_map, hal]
    have hSl : S < h.objs.size := Heap.lt_size hS
    refine codeAny_builtin PySem.F.entry_extend_loop ?_
    rw [Around.under_plainId PySem.F.plain_extend_loop _]
    show wpAny _ A.in1 (pyNext (.ref z) >>= _) _ _ _
    refine wpAny_bind (zst_item (s := { s with heap := h }) D hSl st ex ey fun h' st' ht hz' hkp => ?_)
    dsimp only at ht hz' hkp ⊢
    have hS' := hkp S _ (Ne.symm O.z) (Ne.symm O.to) (Ne.symm O.i1) (Ne.symm O.i2) hS
    have up : ∀ b o, b ≠ S → h'.get? b = some o → (h'.update S (Obj.mapSeq (·.push (Value.ref h.objs.size)))).get? b = some o := fun b o hb e => (Heap.get?_update_other _ _ (Ne.symm hb)).trans e
    show wpAny _ A.in1 (updateSeq S (·.push (Value.ref h.objs.size)) >>= _) _ _ _
    refine wpAny_bind ?_
    have keepAll : ∀ b o, lo ≤ b → h.get? b = some o → (h'.update S (Obj.mapSeq (·.push (Value.ref h.objs.size)))).get? b = some o := fun b o hb e =>
      up b o (Nat.ne_of_gt (Nat.lt_of_lt_of_le L.s hb)) (hkp b o (Nat.ne_of_gt (Nat.lt_of_lt_of_le L.z hb)) (Nat.ne_of_gt (Nat.lt_of_lt_of_le L.to hb)) (Nat.ne_of_gt (Nat.lt_of_lt_of_le L.i1 hb)) (Nat.ne_of_gt (Nat.lt_of_lt_of_le L.i2 hb)) e)
    have hnew := up _ _ (Nat.ne_of_gt hSl) ht
    refine wpAny_updateSeq hS' rfl (wpAny_pure ⟨plainId_quiet PySem.F.plain_extend_loop _, ih (i + 1) _ _ (acc.push (Value.ref h.objs.size)) (as ++ [h.objs.size]) (by omega) (by omega) (st'.keep O up)
      (fun b o e1 e2 e3 e4 e5 e => up b o e1 (hkp b o e2 e3 e4 e5 (hkeep b o e1 e2 e3 e4 e5 e))) (Heap.get?_update_self _ hS' rfl) (by rw [Array.toList_push, hacc, List.map_append]; rfl) (by rw [List.length_append, hal]; rfl) ⟨?_, ?_, ?_⟩ (Nat.le_trans hlo (Nat.le_of_lt (Heap.lt_size hnew)))⟩) (by rw [hsz]; omega) (by show (acc.push (Value.ref h.objs.size)).size ≤ sizeLine + 1; rw [Array.size_push, hsz]; omega)
    · refine List.pairwise_append.mpr ⟨hG.rise, List.pairwise_singleton _ _, fun a ha b hb => ?_⟩
      rw [List.mem_singleton.mp hb]
      obtain ⟨j, hj⟩ := List.mem_iff_getElem?.mp ha
      obtain ⟨_, _, _, _, e⟩ := hG.pairs j a hj
      exact Heap.lt_size e
    · intro a ha
      rcases List.mem_append.mp ha with ha | ha
      · exact hG.above a ha
      · rw [List.mem_singleton.mp ha]; exact hlo
    · intro j b hj
      rcases Nat.lt_trichotomy j as.length with h1 | h1 | h1
      · rw [List.getElem?_append_left h1] at hj
        obtain ⟨x, y, e1, e2, e3⟩ := hG.pairs j b hj
        exact ⟨x, y, e1, e2, keepAll b _ (hG.above b (List.mem_of_getElem? hj)) e3⟩
      · subst h1
        have hb : h.objs.size = b := by simpa using hj
        subst hb
        exact ⟨_, _, by rw [hal]; exact ex, by rw [hal]; exact ey, hnew⟩
      · have hnone : (as ++ [h.objs.size])[j]? = none := List.getElem?_eq_none (by rw [List.length_append, List.length_singleton]; omega)
        rw [hnone] at hj; cases hj
theorem zip_hint {r : Addr} (hT : s.TypeIs (.ref r) "zip") {Q : Bool → Shared → Prop} (h : Q true s) : wpAny (model prog w) A (Builtin.List.listLengthHint (.ref r)) Q E s := by
  unfold Builtin.List.listLengthHint
  refine wpAny_bind (wpAny_specialOf hT zip_no_len ?_)
  show wpAny _ A (specialOf (Value.ref r) (Str.ofString "__length_hint__") >>= _) _ _ _
  refine wpAny_bind (wpAny_specialOf hT zip_no_hint ?_)
  exact wpAny_pure h
end
section
variable {prog : Program} {w : World} {A : Around} {E : Value → Shared → Prop} {s : Shared} {R : Result → Shared → Prop} {z TI TO i1 i2 l1 l2 S : Addr} {xs ys : Array Value}
theorem lz_extend (hh : A.handled = none) (D : ZipApart z TI TO i1 i2 l1 l2) (O : ZOff z TI TO i1 i2 l1 l2 S) (L : ZLow z TI TO i1 i2 S s.heap.objs.size) (st : ZSt z TI TO i1 i2 l1 l2 S xs ys 0 s.heap) (res : Value) (c₀ : Nat)
    (hS : s.heap.get? S = some { cls := .type "list", data := .seq #[] c₀ }) (hT : s.TypeIs (.ref z) "zip") (hit : ∀ (h : Heap), (∀ b o, b ≠ S → s.heap.get? b = some o → h.get? b = some o) → ∀ {A' : Around} {E' : Value → Shared → Prop} {Q : Value → Shared → Prop}, Q (.ref z) { s with heap := h } → wpAny (model prog w) A' (pyIter (.ref z)) Q E' { s with heap := h })
    (hz : min xs.size ys.size ≤ sizeLine)
    (hR : ∀ h' acc c as, (∀ b o, b ≠ S → b ≠ z → b ≠ TO → b ≠ i1 → b ≠ i2 → s.heap.get? b = some o → h'.get? b = some o) → h'.get? S = some { cls := .type "list", dict := none, data := .seq acc c, slots := #[] } → as.length = min xs.size ys.size → ZG xs ys s.heap.objs.size h' as →
      acc.toList = as.map Value.ref → R (.ok (.ret res)) { s with heap := h' }) :
    wpAny (model prog w) A.in1 (Builtin.List.listExtendWith (.ref S) (.ref z) res)
      (fun fin s' => match fin with | .done f => R (.ok f) s' | .again c' => c'.quiet = true ∧ codeAny (model prog w) A c' R s') (fun e s' => R (.error e) s') s := by
  have key : ∀ (h : Heap) (c₁ : Nat), (∀ b o, b ≠ S → s.heap.get? b = some o → h.get? b = some o) → h.get? S = some { cls := .type "list", data := .seq #[] c₁ } → s.heap.objs.size ≤ h.objs.size → codeAny (model prog w) A (.builtin "list.extend.loop" ⟨[.ref S, .ref z, res], []⟩) R { s with heap := h } :=
    fun h c₁ hk hS₁ hsz => lz_loop (s := s) (h₁ := s.heap) (lo := s.heap.objs.size) hh D O L res hz hR _ 0 h c₁ #[] [] rfl (Nat.zero_le _) (st.keep O hk) (fun b o hb _ _ _ _ e => hk b o hb e) hS₁ rfl rfl ⟨List.Pairwise.nil, fun _ ha => (nomatch ha), fun j a hj => (by simp at hj)⟩ hsz
  unfold Builtin.List.listExtendWith
  refine wpAny_bind (wpAny_typeOf (T := "zip") hT ?_)
  have h1 : Builtin.List.listSameRef (.ref S) (.ref z) = false := by simp [Builtin.List.listSameRef, Ne.symm O.z]
  have h2 : (Value.type "zip" == Value.type "list") = false := by decide
  have h3 : (Value.type "zip" == Value.type "tuple") = false := by decide
  simp only [h1, h2, h3, Bool.or_false, Bool.false_eq_true, if_false]
  refine wpAny_bind (hit s.heap (fun _ _ _ e => e) ?_)
  refine wpAny_bind (wpAny_holding (zip_hint hT ?_))
  refine wpAny_ite_split (fun _ => ?_) (fun hf => absurd rfl hf)
  refine wpAny_bind (wpAny_rule ?_)
  refine wpAny_bind ?_
  show wpAny _ _ (updateSeq S (·.push .none) >>= fun _ => updateSeq S (·.pop)) _ _ _
  refine wpAny_bind (wpAny_updateSeq hS rfl ?_)
  have hS₂ := Heap.get?_update_self (Obj.mapSeq (·.push Value.none)) hS rfl
  refine wpAny_updateSeq (hz := by seq_fits) hS₂ rfl ?_
  have hS₃ := Heap.get?_update_self (Obj.mapSeq (·.pop)) hS₂ rfl
  refine wpAny_pure ⟨plainId_quiet PySem.F.plain_extend_loop _, key _ _ (fun b o hb e => ?_) hS₃ ?_⟩
  · exact (Heap.get?_update_other _ _ (Ne.symm hb)).trans ((Heap.get?_update_other _ _ (Ne.symm hb)).trans e)
  · rw [Heap.size_update, Heap.size_update]
    exact Nat.le_refl _
theorem lz_init (hh : A.handled = none) (D : ZipApart z TI TO i1 i2 l1 l2) (O : ZOff z TI TO i1 i2 l1 l2 S) (L : ZLow z TI TO i1 i2 S s.heap.objs.size) (st : ZSt z TI TO i1 i2 l1 l2 S xs ys 0 s.heap)
    (hS : s.heap.get? S = some { cls := .type "list", data := .seq #[] }) (hT : s.TypeIs (.ref z) "zip") (hit : ∀ (h : Heap), (∀ b o, b ≠ S → s.heap.get? b = some o → h.get? b = some o) → ∀ {A' : Around} {E' : Value → Shared → Prop} {Q : Value → Shared → Prop}, Q (.ref z) { s with heap := h } → wpAny (model prog w) A' (pyIter (.ref z)) Q E' { s with heap := h })
    (hz : min xs.size ys.size ≤ sizeLine)
    (hR : ∀ h' acc c as, (∀ b o, b ≠ S → b ≠ z → b ≠ TO → b ≠ i1 → b ≠ i2 → s.heap.get? b = some o → h'.get? b = some o) → h'.get? S = some { cls := .type "list", dict := none, data := .seq acc c, slots := #[] } → as.length = min xs.size ys.size → ZG xs ys s.heap.objs.size h' as →
      acc.toList = as.map Value.ref → R (.ok (.ret .none)) { s with heap := h' }) :
    wpAny (model prog w) A.in1 (Builtin.«list.__init__» ⟨[.ref S, .ref z], []⟩)
      (fun fin s' => match fin with | .done f => R (.ok f) s' | .again c' => c'.quiet = true ∧ codeAny (model prog w) A c' R s') (fun e s' => R (.error e) s') s := by
  show wpAny _ _ (do let old ← Builtin.List.listItems (.ref S); Builtin.List.listUpdate (.ref S) (fun _ => #[]); letGo old.toList.reverse; Builtin.List.listExtendWith (.ref S) (.ref z) .none) _ _ s
  refine wpAny_bind ?_
  unfold Builtin.List.listItems
  refine wpAny_bind (wpAny_seqItems hS rfl (wpAny_pure ?_))
  show wpAny _ _ (updateSeq S (fun _ => #[]) >>= fun _ => letGo (#[] : Array Value).toList.reverse >>= fun _ => Builtin.List.listExtendWith (.ref S) (.ref z) .none) _ _ s
  refine wpAny_bind (wpAny_updateSeq hS rfl ?_)
  have hS₂ := Heap.get?_update_self (Obj.mapSeq (fun _ => (#[] : Array Value))) hS rfl
  have oth : ∀ b o, b ≠ S → s.heap.get? b = some o → (s.heap.update S (Obj.mapSeq (fun _ => (#[] : Array Value)))).get? b = some o := fun b o hb e => (Heap.get?_update_other _ _ (Ne.symm hb)).trans e
  refine wpAny_bind (wpAny_letGo ?_)
  have hsz : (s.heap.update S (Obj.mapSeq (fun _ => (#[] : Array Value)))).objs.size = s.heap.objs.size := Heap.size_update ..
  refine lz_extend hh D O (by show ZLow z TI TO i1 i2 S (s.heap.update S _).objs.size; rw [hsz]; exact L) (st.keep O oth) .none _ hS₂ (let ⟨o, ho, hc⟩ := hT; ⟨o, oth z o O.z ho, hc⟩) (fun h hk {A' E' Q} q => hit h (fun b o hb e => hk b o hb (oth b o hb e)) q) hz fun h' acc c as hk hS' hl hG hacc => ?_
  refine hR h' acc c as (fun b o e1 e2 e3 e4 e5 e => hk b o e1 e2 e3 e4 e5 (oth b o e1 e)) hS' hl ?_ hacc
  have hG : ZG xs ys (s.heap.update S (Obj.mapSeq (fun _ => (#[] : Array Value)))).objs.size h' as := hG
  rw [hsz] at hG
  exact hG
/-- list(z), z a new zip of two lists -/
theorem lz_call {N : Addr} {Q : Value → Shared → Prop} (hh : A.handled = none) (hN : s.heap.objs.size = N + 5) (h1 : l1 < N) (h2 : l2 < N) (hzp : IsZip s.heap (N + 4) (N + 2) (N + 3) .none) (hTI : IsPair s.heap (N + 2) (.ref N) (.ref (N + 1))) (hTO : ∃ a b, IsPair s.heap (N + 3) a b)
    (hi1 : s.heap.IsListIter N l1 0) (hi2 : s.heap.IsListIter (N + 1) l2 0) (hl1 : s.heap.IsList l1 xs) (hl2 : s.heap.IsList l2 ys) (hz : min xs.size ys.size ≤ sizeLine)
    (hQ : ∀ h' acc c as, (∀ b o, b < N → s.heap.get? b = some o → h'.get? b = some o) → h'.get? (N + 5) = some { cls := .type "list", dict := none, data := .seq acc c, slots := #[] } → as.length = min xs.size ys.size → ZG xs ys (N + 6) h' as →
      acc.toList = as.map Value.ref → Q (.ref (N + 5)) { s with heap := h' }) : wpAny (model prog w) A (call (.type "list") [.ref (N + 4)]) Q E s := by
  have lt5 : ∀ j : Nat, j ≤ 4 → (N + j : Nat) < N + 5 := fun j hj => Nat.add_lt_add_left (by omega) N
  have ne5 : ∀ j : Nat, j ≤ 4 → (N + j : Nat) ≠ N + 5 := fun j hj => Nat.ne_of_lt (lt5 j hj)
  have lo : ∀ b : Nat, b < N → b ≠ N + 5 := fun b hb => Nat.ne_of_lt (Nat.lt_of_lt_of_le hb (Nat.le_add_right N 5))
  have O : ZOff (N + 4) (N + 2) (N + 3) N (N + 1) l1 l2 (N + 5) := ⟨ne5 4 (by decide), ne5 2 (by decide), ne5 3 (by decide), ne5 0 (by decide), ne5 1 (by decide), lo _ h1, lo _ h2⟩
  refine callType_codes (Q₁ := fun obj s₁ => obj = .ref s.heap.objs.size ∧ s₁ = { s with heap := s.heap.push { cls := .type "list", data := .seq #[] } }) PySem.F.called_list (PySem.F.typeCall_list_1 _) PySem.F.entry_list_init
    (code_list_new _ ⟨rfl, rfl⟩) fun obj s₁ h₁ => ?_
  obtain ⟨rfl, rfl⟩ := h₁
  have hS : (s.heap.push { cls := .type "list", data := .seq #[] }).get? s.heap.objs.size = some { cls := .type "list", data := .seq #[] } := Heap.get?_push_size _ rfl
  rw [hN] at hS ⊢
  have pk : ∀ b o, s.heap.get? b = some o → (s.heap.push { cls := .type "list", data := .seq #[] }).get? b = some o := fun b o e => Heap.get?_push_of_some _ e
  have hsz : (s.heap.push { cls := .type "list", data := .seq #[] }).objs.size = N + 6 := by rw [Heap.size_push, hN]
  have st : ZSt (N + 4) (N + 2) (N + 3) N (N + 1) l1 l2 (N + 5) xs ys 0 (s.heap.push { cls := .type "list", data := .seq #[] }) :=
    ⟨pk _ _ hTI, hi1.at fun o e => pk _ o e, hi2.at fun o e => pk _ o e, hl1.at fun o e => pk _ o e, hl2.at fun o e => pk _ o e, .inl ⟨pk _ _ hzp, by obtain ⟨a, b, e⟩ := hTO; exact ⟨a, b, pk _ _ e⟩⟩⟩
  refine ⟨⟨_, hS, rfl⟩, PySem.F.args_list_init_2 _ _, lz_init (A := A.in1) hh (PySem.W.ktu_apart N l1 l2 h1 h2) O ?_ st hS ⟨_, pk _ _ hzp, rfl⟩ (fun h hk {A' E' Q} q => wpAny_pyIter_zip (hk _ _ (ne5 4 (by decide)) (pk _ _ hzp)) q) hz fun h' acc c as hk hS' hl hG hacc => ?_⟩
  · show ZLow _ _ _ _ _ _ (s.heap.push _).objs.size
    rw [hsz]
    have lt6 : ∀ j : Nat, j ≤ 5 → (N + j : Nat) < N + 6 := fun j hj => Nat.add_lt_add_left (by omega) N
    exact ⟨lt6 4 (by decide), lt6 3 (by decide), lt6 0 (by decide), lt6 1 (by decide), lt6 5 (by decide)⟩
  · have hG : ZG xs ys (s.heap.push { cls := .type "list", data := .seq #[] }).objs.size h' as := hG
    rw [hsz] at hG
    refine ⟨rfl, hQ h' acc c as (fun b o hb e => ?_) hS' hl hG hacc⟩
    have hne : ∀ j : Nat, b ≠ N + j := fun j => Nat.ne_of_lt (Nat.lt_of_lt_of_le hb (Nat.le_add_right N j))
    exact hk b o (hne 5) (hne 4) (hne 3) (hne 0) (hne 1) (pk b o e)
end
end Bi

end
section
set_option Elab.async false
set_option linter.all false
set_option autoImplicit false
set_option maxRecDepth 100000
set_option maxHeartbeats 1000000
/-! Bi21: list(zip(..)), list(d.items()), list(range(..)), displays with stars, dict displays, d.get. -/
namespace Bi
open PySem L2 PySem.Spec PyProof.Rows
/-! ### new pairs and their list -/
def putP : Hp → List Addr → List (V × V) → Hp
  | H, a :: as, q :: qs => putP (upd H a (.tup [q.1, q.2])) as qs
  | H, _, _ => H
theorem putP_off {b : Addr} : ∀ (as : List Addr) (qs : List (V × V)) (H : Hp), b ∉ as → putP H as qs b = H b
  | [], _, _, _ => rfl
  | _ :: _, [], _, _ => rfl
  | a :: as, q :: qs, H, h => by
    show putP (upd H a (.tup [q.1, q.2])) as qs b = H b
    rw [putP_off as qs _ (fun z => h (List.mem_cons_of_mem _ z)), upd_ne (fun z => h (by rw [z]; exact List.mem_cons_self))]
theorem putP_at : ∀ (as : List Addr) (qs : List (V × V)) (H : Hp), as.length = qs.length → as.Nodup → Paired (fun (t : Addr) (q : V × V) => putP H as qs t = some (.tup [q.1, q.2])) as qs
  | [], [], _, _, _ => .nil
  | [], _ :: _, _, h, _ => by cases h
  | _ :: _, [], _, h, _ => by cases h
  | a :: as, q :: qs, H, h, hn => by
    have hn' := List.nodup_cons.mp hn
    refine .cons ?_ (putP_at as qs (upd H a (.tup [q.1, q.2])) (Nat.succ.inj h) hn'.2)
    show putP (upd H a (.tup [q.1, q.2])) as qs a = _
    rw [putP_off as qs _ hn'.1, upd_same]
section
variable {X : Cx} {pins : List (Addr × Obj)} {σ : L2.St} {H : Hp} {s : Shared} {h' : Heap}
/-- a heap with a new list of new pairs -/
theorem pairs_laid {S c : Nat} {acc : Array Value} {as : List Addr} {qs : List (V × V)} (I : L2.Inv X pins σ H s) (hk : ∀ b o, s.heap.get? b = some o → h'.get? b = some o) (hS : h'.get? S = some { cls := .type "list", dict := none, data := .seq acc c, slots := #[] }) (hacc : acc.toList = as.map Value.ref)
    (hn : as.Nodup) (hSa : S ∉ as) (hz : as.length ≤ sizeLine) (hSn : s.heap.objs.size ≤ S) (han : ∀ a ∈ as, s.heap.objs.size ≤ a)
    (hp : Paired (fun (a : Addr) (q : V × V) => ∃ x y, RelV q.1 x ∧ RelV q.2 y ∧ h'.get? a = some { cls := .type "tuple", data := .seq #[x, y] }) as qs) :
    ∃ H' : Hp, (∀ b o, H b = some o → H' b = some o) ∧ H S = none ∧ H' S = some (.lst (as.map V.ref)) ∧ Paired (fun (t : Addr) (q : V × V) => H' t = some (.tup [q.1, q.2])) as qs ∧ L2.Inv X pins σ H' { s with heap := h' } := by
  have hl : as.length = qs.length := hp.length
  have nS : H S = none := I.hok.fresh hSn
  have nA : ∀ a ∈ as, H a = none := fun a ha => I.hok.fresh (han a ha)
  have nf : ∀ b u, H b = some u → b ∉ as ∧ b ≠ S := fun b u e => ⟨fun z => (by rw [nA b z] at e; cases e), fun z => (by rw [z, nS] at e; cases e)⟩
  have low : ∀ b o, s.heap.get? b = some o → b ∉ as ∧ b ≠ S := fun b o e => ⟨fun z => absurd (Nat.lt_of_lt_of_le (Heap.lt_size e) (han b z)) (Nat.lt_irrefl _), fun z => absurd (Nat.lt_of_lt_of_le (Heap.lt_size e) (by rw [z]; exact hSn)) (Nat.lt_irrefl _)⟩
  have off : ∀ b, b ∉ as → b ≠ S → putP (upd H S (.lst (as.map V.ref))) as qs b = H b := fun b h1 h2 => by rw [putP_off as qs _ h1, upd_ne h2]
  have kp : ∀ b o, H b = some o → putP (upd H S (.lst (as.map V.ref))) as qs b = some o := fun b o e => by
    rw [off b (nf b o e).1 (nf b o e).2]; exact e
  have eS : putP (upd H S (.lst (as.map V.ref))) as qs S = some (.lst (as.map V.ref)) := by rw [putP_off as qs _ hSa, upd_same]
  have atP := putP_at as qs (upd H S (.lst (as.map V.ref))) hl hn
  refine ⟨_, kp, nS, eS, atP, I.call' (ch := []) rfl ⟨fun b o q _ _ _ => hk b o q, fun b o q _ _ _ => ⟨o.slots, hk b o q⟩, fun b o q n _ => ?_, fun b o q _ => ⟨o, hk b o q⟩, fun b xs q => kp b _ q, fun b o u q => kp b _ q, fun b ps q => ⟨#[], by rw [kp b _ q]; simp⟩⟩ (fun b u q => ?_) I.bare fun b z => by simp at z⟩
  · rw [off b (low b o q).1 (low b o q).2]
    exact n
  · by_cases hb : b ∈ as
    · obtain ⟨j, hj⟩ := List.mem_iff_getElem?.mp hb
      obtain ⟨qq, e1, e2⟩ := paired_some atP hj
      obtain ⟨q2, e3, x, y, f1, f2, f3⟩ := paired_some hp hj
      rw [e1] at e3
      cases e3
      rw [e2] at q
      cases q
      exact ⟨by show 2 ≤ sizeLine; decide, [x, y], .cons f1 (.cons f2 .nil), ⟨_, f3, rfl, _, rfl⟩⟩
    · by_cases hb2 : b = S
      · rw [hb2] at q ⊢
        rw [eS] at q
        cases q
        refine ⟨by rw [List.length_map]; exact hz, acc.toList, c, by rw [hacc]; exact LiI.vals_refs as, ?_⟩
        rw [Array.toArray_toList]
        exact hS
      · rw [off b hb hb2] at q
        exact (I.hok b u q).stay (fun d v _ y => hk d v y) (fun d y => kp d _ y) fun d xs y => kp d _ y
end
def zipV : List V → List V → List (V × V)
  | x :: xs, y :: ys => (x, y) :: zipV xs ys
  | _, _ => []
theorem zipV_len : ∀ (xs ys : List V), (zipV xs ys).length = min xs.length ys.length
  | [], ys => by cases ys <;> simp [zipV]
  | x :: xs, [] => by simp [zipV]
  | x :: xs, y :: ys => by
    show (zipV xs ys).length + 1 = _
    rw [zipV_len xs ys]
    simp only [List.length_cons]
    omega
theorem zipV_get : ∀ (xs ys : List V) (i : Nat) (q : V × V), (zipV xs ys)[i]? = some q → xs[i]? = some q.1 ∧ ys[i]? = some q.2
  | [], ys, i, q, e => by cases ys <;> cases e
  | _ :: _, [], i, q, e => by cases e
  | x :: xs, y :: ys, 0, q, e => by cases e; exact ⟨rfl, rfl⟩
  | x :: xs, y :: ys, i + 1, q, e => zipV_get xs ys i q e
/-- list(zip(a, b)) -/
def tListZip (K : PySem.W.Frag) (ta : TA) : TE := fun σ H Q => ta σ H fun vs H1 => ∃ (a b : Addr) (xs ys : List V), vs = [.ref a, .ref b] ∧ SqL K H1 a xs ∧ SqL K H1 b ys ∧
  ∀ (H' : Hp) (p : Addr) (ts : List Addr), (∀ b o, H1 b = some o → H' b = some o) → H1 p = none → H' p = some (.lst (ts.map V.ref)) → Paired (fun (t : Addr) (q : V × V) => H' t = some (.tup [q.1, q.2])) ts (zipV xs ys) → Q (.ref p) H'
theorem pe_listZip {X : Cx} {a b : Expr} {ta : TA} {p p2 pos pos2 : Pos} (hc : X.calm = true) (hgl : Gl X "list") (hml : X.mg "list" = none) (hvl : bootBuiltins "list" = some (.type "list")) (hg : Gl X "zip") (hm : X.mg "zip" = none) (ha : PA X [a, b] ta) (hs : starEach [a, b] X.env = (false, eval a X.env) :: starEach [b] X.env) (hpl : (backTo pos2 (starEach [b] X.env)).any (·.1) = false)
    (hs2 : starEach [.Call (.Name "zip" p2) [a, b] [] pos2] X.env = (false, eval (.Call (.Name "zip" p2) [a, b] [] pos2) X.env) :: starEach [] X.env) : PE X (.Call (.Name "list" p) [.Call (.Name "zip" p2) [a, b] [] pos2] [] pos) (tListZip X.K ta) := by
  refine ⟨fun pins s σ H Q I hq => ?_⟩
  refine wpAny_Call_Name_kw (ld_blt I hgl hml hvl ?_)
  refine PyProof.Rows.callWith_type1 ?_ hs2 rfl
  rw [hs2]
  show wpAny _ _ (spliced ((false, eval (.Call (.Name "zip" p2) [a, b] [] pos2) X.env) :: backTo pos (starEach [] X.env))) _ _ s
  refine Calls.spliced_cons ?_
  refine Call_ (ld_blt I hg hm PyProof.Rows.boot_zip (PyProof.Rows.callWith_type1 (thn (ha.run pos2 pins s σ H _ I hq) fun us s1 ⟨vs, H1, I1, r1, q1⟩ => ?_) hs hpl))
  obtain ⟨c, d, xs, ys, ex, hqx, hqy, q⟩ := q1
  subst ex
  cases r1 with
  | cons r rr => cases rr with
    | cons r' rr =>
      cases rr
      cases r
      cases r'
      obtain ⟨its, rv, p1, hz1⟩ := I1.list hqx
      obtain ⟨its2, rv2, p2', hz2⟩ := I1.list hqy
      refine call_zip_2 p1.isList p2'.isList fun h1 hz hTI hTO hi1 hi2 hsz hk => ?_
      refine Calls.spliced_nil ?_
      have ll : min its.toArray.size its2.toArray.size ≤ sizeLine := by
        have := rv.length
        simp only [List.size_toArray]
        omega
      refine lz_call (s := { s1 with heap := h1 }) (l1 := c) (l2 := d) (xs := its.toArray) (ys := its2.toArray) (I1.ok.hd hc) hsz p1.lt p2'.lt hz hTI ⟨_, _, hTO⟩ hi1 hi2 (p1.isList.at fun o e => hk _ o e) (p2'.isList.at fun o e => hk _ o e) ll fun h2 acc cc as hk2 hS hl hG hacc => ?_
      have hl2 : as.length = (zipV xs ys).length := by
        rw [hl, zipV_len, rv.length, rv2.length]
        simp
      have hp : Paired (fun (a : Addr) (q : V × V) => ∃ x y, RelV q.1 x ∧ RelV q.2 y ∧ h2.get? a = some { cls := .type "tuple", data := .seq #[x, y] }) as (zipV xs ys) := paired_of hl2 fun i a qq e1 e2 => by
        obtain ⟨x, y, f1, f2, f3⟩ := hG.pairs i a e1
        obtain ⟨g1, g2⟩ := zipV_get xs ys i qq e2
        obtain ⟨u, k1, k2⟩ := rv.get g1
        obtain ⟨u2, k3, k4⟩ := rv2.get g2
        have z1 : its.toArray[i]? = some u := by simpa using k1
        have z2 : its2.toArray[i]? = some u2 := by simpa using k3
        rw [f1] at z1
        rw [f2] at z2
        cases z1
        cases z2
        exact ⟨x, y, k2, k4, f3⟩
      have hNN : (s1.heap.objs.size + 5 : Nat) ∉ as := fun z => absurd (hG.above _ z) (Nat.not_le_of_gt (Nat.lt_succ_self _))
      obtain ⟨H', kp, nS, eS, atP, I2⟩ := pairs_laid (S := s1.heap.objs.size + 5) (h' := h2) I1 (fun b o e => hk2 b o (Heap.lt_size e) (hk b o e)) hS hacc (hG.rise.imp fun h => Nat.ne_of_lt h) hNN (by rw [hl]; exact ll) (Nat.le_add_right _ _) (fun a ha => Nat.le_trans (Nat.le_add_right _ 6) (hG.above a ha)) hp
      exact ⟨.ref (s1.heap.objs.size + 5), H', I2, rfl, q H' _ as kp nS eS atP⟩
end Bi

end
section
set_option Elab.async false
set_option linter.all false
set_option autoImplicit false
set_option maxRecDepth 100000
set_option maxHeartbeats 1000000
/-! BiZ: list(zip(a, b)), each a list or a tuple. -/
namespace Bi
open PySem L2 PySem.Spec PyProof.Rows
section
variable {prog : Program} {w : World} {A : Around} {E : Value → Shared → Prop} {s : Shared} {z TI TO T i1 i2 : Addr} {fp1 fp2 : List Addr} {n1 n2 i : Nat} {P1 P2 : Nat → Value → Prop} {St1 St2 : Nat → Heap → Prop} {f : Bool} {oT : Obj}
/-- the next pair, the one ahead still being held -/
theorem zh_item {Q : Option Value → Shared → Prop} (S : ZipSep2 z TI TO i1 i2 fp1 fp2) (D1 : Draws prog w A.in1 i1 fp1 n1 P1 St1) (D2 : Draws prog w A.in1 i2 fp2 n2 P2 St2)
    (hz : IsZipHeld s.heap z TI TO T f) (hT : s.heap.get? T = some oT) (hTI : IsTupOf2 s.heap TI (.ref i1) (.ref i2)) (st1 : St1 i s.heap) (st2 : St2 i s.heap) (hlt1 : i < n1) (hlt2 : i < n2)
    (hQ : ∀ x1 x2 h' tk, P1 i x1 → P2 i x2 → IsZipHeld h' z TI TO T true → St1 (i + 1) h' → St2 (i + 1) h' → IsTupOf2 h' s.heap.objs.size x1 x2 → h'.objs.size = s.heap.objs.size + 1 →
      (∀ c o, c ≠ z → c ≠ i1 → c ≠ i2 → s.heap.get? c = some o → h'.get? c = some o) → Q (some (.ref s.heap.objs.size)) { s with heap := h', toks := tk }) : wpAny (model prog w) A (pyNext (.ref z)) Q E s := by
  have hTy : s.TypeIs (.ref z) "zip" := ⟨_, hz, rfl⟩
  unfold pyNext
  refine wpAny_bind (wpAny_attempt (wpAny_callSpecial?_slot (name := Str.ofString "__next__") hTy F.slot_zip_next (wpAny_call_entry F.slot_zip_next hTy F.entry_zip_next ?_ (F.args_zip_next_1 _))))
  obtain ⟨hp, g, d, tk0, os⟩ := s
  show wpAny _ _ (field (.ref z) 2 >>= fun v => _) _ _ _; refine wpAny_bind (wpAny_field hz rfl (x := .bool false) rfl ?_)
  show wpAny _ _ (field (.ref z) 3 >>= fun v => _) _ _ _; refine wpAny_bind (wpAny_field hz rfl (x := .ref TI) rfl (wpAny_bind (wpAny_seqItems hTI rfl ?_)))
  show wpAny _ _ (Builtin.SmallTypes.ownedTupleIsFree (.ref z) >>= fun v => _) _ _ _; refine wpAny_bind (wpAny_tupleHeld_zip hz hT fun h₁ hz₁ hs₁ => ?_)
  rw [if_neg Bool.false_ne_true]; refine wpAny_bind ?_; rw [← Array.forIn_toList]
  simp only [List.forIn_cons, List.forIn_nil]; refine wpAny_bind (wpAny_bind (wpAny_holding ?_))
  show wpAny _ _ (Builtin.SmallTypes.nextOf (.ref i1) >>= fun v => _) _ _ ⟨h₁, g, d, tk0, os⟩
  refine wpAny_bind (D1.item i _ _ _ hlt1 (D1.over st1 hs₁ S.zf1) fun x1 p1 tk1 hx1 sn1 hp1 => wpAny_pure (wpAny_pure ?_)); replace hp1 : Heap.SameBut i1 h₁ p1 := hp1
  refine wpAny_bind (wpAny_bind (wpAny_holding ?_)); show wpAny _ _ (Builtin.SmallTypes.nextOf (.ref i2) >>= fun v => _) _ _ ⟨p1, g, d, tk1, os⟩
  refine wpAny_bind (D2.item i _ _ _ hlt2 (D2.over (D2.over st2 hs₁ S.zf2) hp1 S.sep1_2) fun x2 p2 tk2 hx2 sn2 hp2 => wpAny_pure (wpAny_pure (wpAny_pure ?_))); replace hp2 : Heap.SameBut i2 p1 p2 := hp2
  show wpAny _ _ (newTuple [x1, x2] >>= fun v => _) _ _ ⟨p2, g, d, tk2, os⟩; refine wpAny_bind (wpAny_newTuple ?_)
  have hsz : p2.objs.size = hp.objs.size := by rw [hp2.1, hp1.1, hs₁.1]
  have hz₃ : IsZipHeld p2 z TI TO T true := hp2.extBut _ _ S.zi2 (hp1.extBut _ _ S.zi1 hz₁)
  have hk : ∀ c o, c ≠ z → c ≠ i1 → c ≠ i2 → hp.get? c = some o → p2.get? c = some o := fun c o c1 c2 c3 e => hp2.extBut _ _ c3 (hp1.extBut _ _ c2 (hs₁.extBut _ _ c1 e))
  refine wpAny_pure ⟨_, rfl, wpAny_pure ?_⟩
  have hq : IsTupOf2 (p2.push { cls := .type "tuple", data := .seq #[x1, x2] }) p2.objs.size x1 x2 := Heap.get?_push_size _ rfl
  have hz4 : (p2.push { cls := .type "tuple", data := .seq #[x1, x2] }).objs.size = p2.objs.size + 1 := Heap.size_push ..
  show Q (some (.ref p2.objs.size)) _
  rw [hsz] at hq hz4 ⊢
  exact hQ x1 x2 _ tk2 hx1 hx2 (Heap.get?_push_of_some _ hz₃) (D1.frame _ _ _ (D1.over sn1 hp2 S.sep2_1) fun b _ o e => Heap.get?_push_of_some _ e) (D2.frame _ _ _ sn2 fun b _ o e => Heap.get?_push_of_some _ e) hq hz4 fun c o c1 c2 c3 e => Heap.get?_push_of_some _ (hk c o c1 c2 c3 e)
theorem zh_end {Q : Option Value → Shared → Prop} (S : ZipSep2 z TI TO i1 i2 fp1 fp2) (D1 : Draws prog w A.in1 i1 fp1 n1 P1 St1) (D2 : Draws prog w A.in1 i2 fp2 n2 P2 St2)
    (hz : IsZipHeld s.heap z TI TO T f) (hT : s.heap.get? T = some oT) (hTI : IsTupOf2 s.heap TI (.ref i1) (.ref i2)) (st1 : St1 i s.heap) (st2 : St2 i s.heap) (hle1 : i ≤ n1) (hle2 : i ≤ n2) (hend : i = n1 ∨ i = n2)
    (hQ : ∀ h' tk, (∀ c o, c ≠ z → c ≠ i1 → c ≠ i2 → s.heap.get? c = some o → h'.get? c = some o) → Q none { s with heap := h', toks := tk }) : wpAny (model prog w) A (pyNext (.ref z)) Q E s := by
  have hTy : s.TypeIs (.ref z) "zip" := ⟨_, hz, rfl⟩
  unfold pyNext
  have fin : ∀ (h' : Heap) (tk : Tok) (e : Addr), (∀ c o, c ≠ z → c ≠ i1 → c ≠ i2 → s.heap.get? c = some o → h'.get? c = some o) → (∃ o, h'.get? e = some o ∧ o.cls = .type "StopIteration") → wpAny (model prog w) A (do if ← isInstance (.ref e) (.type "StopIteration") then pure none else throw (.ref e)) Q E { s with heap := h', toks := tk } := fun h' tk e hk he => by
    obtain ⟨o, ho, hc⟩ := he
    exact wpAny_bind (wpAny_isInstance (T := "StopIteration") (b := true) ⟨o, ho, hc⟩ isSubtype_stop (wpAny_pure (hQ _ _ hk)))
  refine wpAny_bind (wpAny_attempt (wpAny_callSpecial?_slot (name := Str.ofString "__next__") hTy F.slot_zip_next (wpAny_call_entry F.slot_zip_next hTy F.entry_zip_next ?_ (F.args_zip_next_1 _))))
  obtain ⟨hp, g, d, tk0, os⟩ := s
  show wpAny _ _ (field (.ref z) 2 >>= fun v => _) _ _ _; refine wpAny_bind (wpAny_field hz rfl (x := .bool false) rfl ?_)
  show wpAny _ _ (field (.ref z) 3 >>= fun v => _) _ _ _; refine wpAny_bind (wpAny_field hz rfl (x := .ref TI) rfl (wpAny_bind (wpAny_seqItems hTI rfl ?_)))
  show wpAny _ _ (Builtin.SmallTypes.ownedTupleIsFree (.ref z) >>= fun v => _) _ _ _; refine wpAny_bind (wpAny_tupleHeld_zip hz hT fun h₁ hz₁ hs₁ => ?_)
  rw [if_neg Bool.false_ne_true]; refine wpAny_bind ?_; rw [← Array.forIn_toList]
  simp only [List.forIn_cons, List.forIn_nil]; refine wpAny_bind (wpAny_bind (wpAny_holding ?_))
  show wpAny _ _ (Builtin.SmallTypes.nextOf (.ref i1) >>= fun v => _) _ _ ⟨h₁, g, d, tk0, os⟩
  by_cases hlt1 : i < n1
  · refine wpAny_bind (D1.item i _ _ _ hlt1 (D1.over st1 hs₁ S.zf1) fun x1 p1 tk1 hx1 sn1 hp1 => wpAny_pure (wpAny_pure ?_)); replace hp1 : Heap.SameBut i1 h₁ p1 := hp1
    refine wpAny_bind (wpAny_bind (wpAny_holding ?_)); show wpAny _ _ (Builtin.SmallTypes.nextOf (.ref i2) >>= fun v => _) _ _ ⟨p1, g, d, tk1, os⟩
    have hi2 : i = n2 := by omega
    refine wpAny_bind (D2.done ⟨p1, g, d, tk1, os⟩ _ _ (by rw [← hi2]; exact D2.over (D2.over st2 hs₁ S.zf2) hp1 S.sep1_2) fun q e hq he => ?_)
    replace hq : Heap.ExtBut i2 p1 q := hq
    exact fin q tk1 e (fun c o c1 c2 c3 x => hq _ _ c3 (hp1.extBut _ _ c2 (hs₁.extBut _ _ c1 x))) he
  · have hi1 : i = n1 := by omega
    refine wpAny_bind (D1.done ⟨h₁, g, d, tk0, os⟩ _ _ (by rw [← hi1]; exact D1.over st1 hs₁ S.zf1) fun q e hq he => ?_)
    replace hq : Heap.ExtBut i1 h₁ q := hq
    exact fin q tk0 e (fun c o c1 c2 _ x => hq _ _ c2 (hs₁.extBut _ _ c1 x)) he
end
end Bi

end
section
set_option Elab.async false
set_option linter.all false
set_option autoImplicit false
set_option maxRecDepth 100000
set_option maxHeartbeats 1000000
namespace Bi
open PySem L2 PySem.Spec PyProof.Rows
/-- the zip at z as it stands at turn i; the list at S apart -/
structure ZTt (t1 t2 : Bool) (z TI TO i1 i2 l1 l2 S : Addr) (xs ys : Array Value) (i : Nat) (h : Heap) : Prop where
  ti : IsPair h TI (.ref i1) (.ref i2)
  it1 : ItA t1 h i1 l1 i
  it2 : ItA t2 h i2 l2 i
  ls1 : IsA t1 h l1 xs
  ls2 : IsA t2 h l2 ys
  zp : (IsZip h z TI TO .none ∧ ∃ a b, IsPair h TO a b) ∨ ∃ T f oT, IsZipHeld h z TI TO T f ∧ h.get? T = some oT ∧ T ≠ z ∧ T ≠ i1 ∧ T ≠ i2 ∧ T ≠ S
theorem isA_at {tp : Bool} {h h' : Heap} {a : Addr} {items : Array Value} (x : IsA tp h a items) (k : ∀ o, h.get? a = some o → h'.get? a = some o) : IsA tp h' a items := by
  cases tp with
  | true => exact (show h.IsTuple a items from x).at k
  | false => exact (show h.IsList a items from x).at k
section
variable {prog : Program} {w : World} {A : Around} {E : Value → Shared → Prop} {s : Shared} {R : Result → Shared → Prop} {t1 t2 : Bool} {z TI TO i1 i2 l1 l2 S : Addr} {xs ys : Array Value}
/-- what is apart from the list -/
structure ZUff (z TI TO i1 i2 l1 l2 S : Addr) : Prop where
  z : z ≠ S
  ti : TI ≠ S
  to : TO ≠ S
  i1 : i1 ≠ S
  i2 : i2 ≠ S
  l1 : l1 ≠ S
  l2 : l2 ≠ S
theorem ZTt.keep {i : Nat} {h h' : Heap} (D : ZUff z TI TO i1 i2 l1 l2 S) (x : ZTt t1 t2 z TI TO i1 i2 l1 l2 S xs ys i h) (k : ∀ b o, b ≠ S → h.get? b = some o → h'.get? b = some o) : ZTt t1 t2 z TI TO i1 i2 l1 l2 S xs ys i h' := by
  refine ⟨k _ _ D.ti x.ti, itA_at x.it1 fun o e => k _ o D.i1 e, itA_at x.it2 fun o e => k _ o D.i2 e, isA_at x.ls1 fun o e => k _ o D.l1 e, isA_at x.ls2 fun o e => k _ o D.l2 e, ?_⟩
  rcases x.zp with ⟨h1, a, b, h2⟩ | ⟨T, f, oT, h1, h2, r1, r2, r3, r4⟩
  · exact .inl ⟨k _ _ D.z h1, a, b, k _ _ D.to h2⟩
  · exact .inr ⟨T, f, oT, k _ _ D.z h1, k _ _ r4 h2, r1, r2, r3, r4⟩
abbrev ZSep (z TI TO i1 i2 l1 l2 : Addr) : Prop := ZipSep2 z TI TO i1 i2 [i1, l1] [i2, l2]
structure ZTIl (TI l1 l2 : Addr) : Prop where
  a : TI ≠ l1
  b : TI ≠ l2
theorem ztt_item {i : Nat} {x y : Value} {Q : Option Value → Shared → Prop} (hh : A.handled = none) (D : ZSep z TI TO i1 i2 l1 l2) (e1 : l1 ≠ i1) (e2 : l2 ≠ i2) (hS : S < s.heap.objs.size) (st : ZTt t1 t2 z TI TO i1 i2 l1 l2 S xs ys i s.heap) (hx : xs[i]? = some x) (hy : ys[i]? = some y)
    (hQ : ∀ h' tk, ZTt t1 t2 z TI TO i1 i2 l1 l2 S xs ys (i + 1) h' → h'.get? s.heap.objs.size = some { cls := .type "tuple", data := .seq #[x, y] } → h'.objs.size = s.heap.objs.size + 1 →
      (∀ c o, c ≠ z → c ≠ TO → c ≠ i1 → c ≠ i2 → s.heap.get? c = some o → h'.get? c = some o) → Q (some (.ref s.heap.objs.size)) { s with heap := h', toks := tk }) : wpAny (model prog w) A (pyNext (.ref z)) Q E s := by
  have lt : ∀ {c o}, s.heap.get? c = some o → s.heap.objs.size ≠ c := fun e => Nat.ne_of_gt (Heap.lt_size e)
  have n1 : s.heap.objs.size ≠ i1 := by obtain ⟨_, e, _⟩ := itA_ob st.it1; exact lt e
  have n2 : s.heap.objs.size ≠ i2 := by obtain ⟨_, e, _⟩ := itA_ob st.it2; exact lt e
  have D1 := drawsA (prog := prog) (w := w) (A := A.in1) t1 hh i1 l1 e1 xs
  have D2 := drawsA (prog := prog) (w := w) (A := A.in1) t2 hh i2 l2 e2 ys
  obtain ⟨hx0, hxe⟩ := Array.getElem?_eq_some_iff.mp hx
  obtain ⟨hy0, hye⟩ := Array.getElem?_eq_some_iff.mp hy
  rcases st.zp with ⟨h1, a, b, h2⟩ | ⟨T, f, oT, h1, h2, r1, r2, r3, r4⟩
  · refine wpAny_pyNext_zipD2_item D D1 D2 h1 st.ti h2 ⟨st.it1, st.ls1⟩ ⟨st.it2, st.ls2⟩ hx0 hy0 fun x1 x2 h' tk p1 p2 a1 a2 a3 a4 a5 a6 hk => ?_
    have q1 : x1 = x := by rw [hx] at p1; exact (Option.some.inj p1).symm
    have q2 : x2 = y := by rw [hy] at p2; exact (Option.some.inj p2).symm
    subst q1 q2
    exact hQ h' tk ⟨hk _ _ D.TIz D.TITO D.TIi1 D.TIi2 st.ti, a3.1, a4.1, a3.2, a4.2, .inr ⟨s.heap.objs.size, false, _, a1, a5, lt h1, n1, n2, Nat.ne_of_gt hS⟩⟩ a5 a6 hk
  · refine zh_item D D1 D2 h1 h2 st.ti ⟨st.it1, st.ls1⟩ ⟨st.it2, st.ls2⟩ hx0 hy0 fun x1 x2 h' tk p1 p2 a1 a3 a4 a5 a6 hk => ?_
    have q1 : x1 = x := by rw [hx] at p1; exact (Option.some.inj p1).symm
    have q2 : x2 = y := by rw [hy] at p2; exact (Option.some.inj p2).symm
    subst q1 q2
    exact hQ h' tk ⟨hk _ _ D.TIz D.TIi1 D.TIi2 st.ti, a3.1, a4.1, a3.2, a4.2, .inr ⟨T, true, oT, a1, hk _ _ r1 r2 r3 h2, r1, r2, r3, r4⟩⟩ a5 a6 fun c o c1 _ c3 c4 e => hk c o c1 c3 c4 e
theorem ztt_done {i : Nat} {Q : Option Value → Shared → Prop} (hh : A.handled = none) (D : ZSep z TI TO i1 i2 l1 l2) (e1 : l1 ≠ i1) (e2 : l2 ≠ i2) (st : ZTt t1 t2 z TI TO i1 i2 l1 l2 S xs ys i s.heap) (hend : i = min xs.size ys.size)
    (hQ : ∀ h' tk, (∀ c o, c ≠ z → c ≠ TO → c ≠ i1 → c ≠ i2 → s.heap.get? c = some o → h'.get? c = some o) → Q none { s with heap := h', toks := tk }) : wpAny (model prog w) A (pyNext (.ref z)) Q E s := by
  have D1 := drawsA (prog := prog) (w := w) (A := A.in1) t1 hh i1 l1 e1 xs
  have D2 := drawsA (prog := prog) (w := w) (A := A.in1) t2 hh i2 l2 e2 ys
  rcases st.zp with ⟨h1, a, b, h2⟩ | ⟨T, f, oT, h1, h2, r1, r2, r3, r4⟩
  · exact wpAny_pyNext_zipD2_end D D1 D2 h1 st.ti h2 ⟨st.it1, st.ls1⟩ ⟨st.it2, st.ls2⟩ (by omega) (by omega) (by omega) fun h' tk hk => hQ h' tk hk
  · exact zh_end D D1 D2 h1 h2 st.ti ⟨st.it1, st.ls1⟩ ⟨st.it2, st.ls2⟩ (by omega) (by omega) (by omega) fun h' tk hk => hQ h' tk fun c o c1 _ c3 c4 e => hk c o c1 c3 c4 e
/-- the tuples that were made -/
structure ZHG (xs ys : Array Value) (lo : Addr) (h : Heap) (as : List Addr) : Prop where
  rise : as.Pairwise (· < ·)
  above : ∀ a ∈ as, lo ≤ a
  pairs : ∀ (j : Nat) (a : Addr), as[j]? = some a → ∃ x y, xs[j]? = some x ∧ ys[j]? = some y ∧ h.get? a = some { cls := .type "tuple", data := .seq #[x, y] }
theorem ZHG.keep {lo : Addr} {h h' : Heap} {as : List Addr} (g : ZHG xs ys lo h as) (k : ∀ b o, lo ≤ b → h.get? b = some o → h'.get? b = some o) : ZHG xs ys lo h' as :=
  ⟨g.rise, g.above, fun j a e => by
    obtain ⟨x, y, h1, h2, h3⟩ := g.pairs j a e
    exact ⟨x, y, h1, h2, k _ _ (g.above a (List.mem_of_getElem? e)) h3⟩⟩
/-- all that is turned lies below lo -/
structure ZMow (z TI TO i1 i2 S lo : Addr) : Prop where
  z : z < lo
  to : TO < lo
  i1 : i1 < lo
  i2 : i2 < lo
  s : S < lo
theorem mz_loop {lo : Addr} (hh : A.handled = none) (D : ZSep z TI TO i1 i2 l1 l2) (f1 : l1 ≠ i1) (f2 : l2 ≠ i2) (O : ZUff z TI TO i1 i2 l1 l2 S) (L : ZMow z TI TO i1 i2 S lo) (res : Value) {h₁ : Heap}
    (hz : min xs.size ys.size ≤ sizeLine)
    (hR : ∀ h' tk acc c as, (∀ b o, b ≠ S → b ≠ z → b ≠ TO → b ≠ i1 → b ≠ i2 → h₁.get? b = some o → h'.get? b = some o) → h'.get? S = some { cls := .type "list", dict := none, data := .seq acc c, slots := #[] } → as.length = min xs.size ys.size → ZHG xs ys lo h' as →
      acc.toList = as.map Value.ref → R (.ok (.ret res)) { s with heap := h', toks := tk }) :
    ∀ (k i : Nat) (h : Heap) (tk : Tok) (c : Nat) (acc : Array Value) (as : List Addr), min xs.size ys.size - i = k → i ≤ min xs.size ys.size → ZTt t1 t2 z TI TO i1 i2 l1 l2 S xs ys i h → (∀ b o, b ≠ S → b ≠ z → b ≠ TO → b ≠ i1 → b ≠ i2 → h₁.get? b = some o → h.get? b = some o) →
      h.get? S = some { cls := .type "list", dict := none, data := .seq acc c, slots := #[] } → acc.toList = as.map Value.ref → as.length = i → ZHG xs ys lo h as → lo ≤ h.objs.size →
      codeAny (model prog w) A (.builtin "list.extend.loop" ⟨[.ref S, .ref z, res], []⟩) R { s with heap := h, toks := tk } := by
  intro k
  induction k with
  | zero =>
    intro i h tk c acc as hk hi st hkeep hS hacc hal hG hlo
    have hin : i = min xs.size ys.size := by omega
    refine codeAny_builtin PySem.F.entry_extend_loop ?_
    rw [Around.under_plainId PySem.F.plain_extend_loop _]
    show wpAny _ A.in1 (pyNext (.ref z) >>= _) _ _ _
    refine wpAny_bind (ztt_done (s := { s with heap := h, toks := tk }) (A := A.in1) hh D f1 f2 st hin fun h' tk' he => ?_)
    · refine wpAny_pure (hR h' tk' acc c as (fun b o e1 e2 e3 e4 e5 e => he b o e2 e3 e4 e5 (hkeep b o e1 e2 e3 e4 e5 e)) (he S _ (Ne.symm O.z) (Ne.symm O.to) (Ne.symm O.i1) (Ne.symm O.i2) hS) (by omega) (hG.keep fun b o hb e => ?_) hacc)
      exact he b o (Nat.ne_of_gt (Nat.lt_of_lt_of_le L.z hb)) (Nat.ne_of_gt (Nat.lt_of_lt_of_le L.to hb)) (Nat.ne_of_gt (Nat.lt_of_lt_of_le L.i1 hb)) (Nat.ne_of_gt (Nat.lt_of_lt_of_le L.i2 hb)) e
  | succ k ih =>
    intro i h tk c acc as hk hi st hkeep hS hacc hal hG hlo
    have hix : i < xs.size := by omega
    have hiy : i < ys.size := by omega
    have ex := Array.getElem?_eq_getElem hix
    have ey := Array.getElem?_eq_getElem hiy
    have hsz : acc.size = i := by rw [← Array.length_toList, hacc, List.length_map, hal]
    have hSl : S < h.objs.size := Heap.lt_size hS
    refine codeAny_builtin PySem.F.entry_extend_loop ?_
    rw [Around.under_plainId PySem.F.plain_extend_loop _]
    show wpAny _ A.in1 (pyNext (.ref z) >>= _) _ _ _
    refine wpAny_bind (ztt_item (s := { s with heap := h, toks := tk }) (A := A.in1) hh D f1 f2 hSl st ex ey fun h' tk' st' ht hz' hkp => ?_)
    dsimp only at ht hz' hkp ⊢
    have hS' := hkp S _ (Ne.symm O.z) (Ne.symm O.to) (Ne.symm O.i1) (Ne.symm O.i2) hS
    have up : ∀ b o, b ≠ S → h'.get? b = some o → (h'.update S (Obj.mapSeq (·.push (Value.ref h.objs.size)))).get? b = some o := fun b o hb e => (Heap.get?_update_other _ _ (Ne.symm hb)).trans e
    show wpAny _ A.in1 (updateSeq S (·.push (Value.ref h.objs.size)) >>= _) _ _ _
    refine wpAny_bind ?_
    have keepAll : ∀ b o, lo ≤ b → h.get? b = some o → (h'.update S (Obj.mapSeq (·.push (Value.ref h.objs.size)))).get? b = some o := fun b o hb e =>
      up b o (Nat.ne_of_gt (Nat.lt_of_lt_of_le L.s hb)) (hkp b o (Nat.ne_of_gt (Nat.lt_of_lt_of_le L.z hb)) (Nat.ne_of_gt (Nat.lt_of_lt_of_le L.to hb)) (Nat.ne_of_gt (Nat.lt_of_lt_of_le L.i1 hb)) (Nat.ne_of_gt (Nat.lt_of_lt_of_le L.i2 hb)) e)
    have hnew := up _ _ (Nat.ne_of_gt hSl) ht
    refine wpAny_updateSeq hS' rfl (wpAny_pure ⟨plainId_quiet PySem.F.plain_extend_loop _, ih (i + 1) _ tk' _ (acc.push (Value.ref h.objs.size)) (as ++ [h.objs.size]) (by omega) (by omega) (st'.keep O up)
      (fun b o e1 e2 e3 e4 e5 e => up b o e1 (hkp b o e2 e3 e4 e5 (hkeep b o e1 e2 e3 e4 e5 e))) (Heap.get?_update_self _ hS' rfl) (by rw [Array.toList_push, hacc, List.map_append]; rfl) (by rw [List.length_append, hal]; rfl) ⟨?_, ?_, ?_⟩ (Nat.le_trans hlo (Nat.le_of_lt (Heap.lt_size hnew)))⟩) (by rw [hsz]; omega) (by show (acc.push (Value.ref h.objs.size)).size ≤ sizeLine + 1; rw [Array.size_push, hsz]; omega)
    · refine List.pairwise_append.mpr ⟨hG.rise, List.pairwise_singleton _ _, fun a ha b hb => ?_⟩
      rw [List.mem_singleton.mp hb]
      obtain ⟨j, hj⟩ := List.mem_iff_getElem?.mp ha
      obtain ⟨_, _, _, _, e⟩ := hG.pairs j a hj
      exact Heap.lt_size e
    · intro a ha
      rcases List.mem_append.mp ha with ha | ha
      · exact hG.above a ha
      · rw [List.mem_singleton.mp ha]; exact hlo
    · intro j b hj
      rcases Nat.lt_trichotomy j as.length with h1 | h1 | h1
      · rw [List.getElem?_append_left h1] at hj
        obtain ⟨x, y, e1, e2, e3⟩ := hG.pairs j b hj
        exact ⟨x, y, e1, e2, keepAll b _ (hG.above b (List.mem_of_getElem? hj)) e3⟩
      · subst h1
        have hb : h.objs.size = b := by simpa using hj
        subst hb
        exact ⟨_, _, by rw [hal]; exact ex, by rw [hal]; exact ey, hnew⟩
      · have hnone : (as ++ [h.objs.size])[j]? = none := List.getElem?_eq_none (by rw [List.length_append, List.length_singleton]; omega)
        rw [hnone] at hj; cases hj
theorem zip_hint2 {r : Addr} (hT : s.TypeIs (.ref r) "zip") {Q : Bool → Shared → Prop} (h : Q true s) : wpAny (model prog w) A (Builtin.List.listLengthHint (.ref r)) Q E s := by
  unfold Builtin.List.listLengthHint
  refine wpAny_bind (wpAny_specialOf hT zip_no_len ?_)
  show wpAny _ A (specialOf (Value.ref r) (Str.ofString "__length_hint__") >>= _) _ _ _
  refine wpAny_bind (wpAny_specialOf hT zip_no_hint ?_)
  exact wpAny_pure h
end
section
variable {t1 t2 : Bool} {prog : Program} {w : World} {A : Around} {E : Value → Shared → Prop} {s : Shared} {R : Result → Shared → Prop} {z TI TO i1 i2 l1 l2 S : Addr} {xs ys : Array Value}
theorem mz_extend (hh : A.handled = none) (D : ZSep z TI TO i1 i2 l1 l2) (f1 : l1 ≠ i1) (f2 : l2 ≠ i2) (O : ZUff z TI TO i1 i2 l1 l2 S) (L : ZMow z TI TO i1 i2 S s.heap.objs.size) (st : ZTt t1 t2 z TI TO i1 i2 l1 l2 S xs ys 0 s.heap) (res : Value) (c₀ : Nat)
    (hS : s.heap.get? S = some { cls := .type "list", data := .seq #[] c₀ }) (hT : s.TypeIs (.ref z) "zip") (hit : ∀ (h : Heap), (∀ b o, b ≠ S → s.heap.get? b = some o → h.get? b = some o) → ∀ {A' : Around} {E' : Value → Shared → Prop} {Q : Value → Shared → Prop}, Q (.ref z) { s with heap := h } → wpAny (model prog w) A' (pyIter (.ref z)) Q E' { s with heap := h })
    (hz : min xs.size ys.size ≤ sizeLine)
    (hR : ∀ h' tk acc c as, (∀ b o, b ≠ S → b ≠ z → b ≠ TO → b ≠ i1 → b ≠ i2 → s.heap.get? b = some o → h'.get? b = some o) → h'.get? S = some { cls := .type "list", dict := none, data := .seq acc c, slots := #[] } → as.length = min xs.size ys.size → ZHG xs ys s.heap.objs.size h' as →
      acc.toList = as.map Value.ref → R (.ok (.ret res)) { s with heap := h', toks := tk }) :
    wpAny (model prog w) A.in1 (Builtin.List.listExtendWith (.ref S) (.ref z) res)
      (fun fin s' => match fin with | .done f => R (.ok f) s' | .again c' => c'.quiet = true ∧ codeAny (model prog w) A c' R s') (fun e s' => R (.error e) s') s := by
  have key : ∀ (h : Heap) (c₁ : Nat), (∀ b o, b ≠ S → s.heap.get? b = some o → h.get? b = some o) → h.get? S = some { cls := .type "list", data := .seq #[] c₁ } → s.heap.objs.size ≤ h.objs.size → codeAny (model prog w) A (.builtin "list.extend.loop" ⟨[.ref S, .ref z, res], []⟩) R { s with heap := h } :=
    fun h c₁ hk hS₁ hsz => mz_loop (s := s) (h₁ := s.heap) (lo := s.heap.objs.size) hh D f1 f2 O L res hz hR _ 0 h s.toks c₁ #[] [] rfl (Nat.zero_le _) (st.keep O hk) (fun b o hb _ _ _ _ e => hk b o hb e) hS₁ rfl rfl ⟨List.Pairwise.nil, fun _ ha => (nomatch ha), fun j a hj => (by simp at hj)⟩ hsz
  unfold Builtin.List.listExtendWith
  refine wpAny_bind (wpAny_typeOf (T := "zip") hT ?_)
  have h1 : Builtin.List.listSameRef (.ref S) (.ref z) = false := by simp [Builtin.List.listSameRef, Ne.symm O.z]
  have h2 : (Value.type "zip" == Value.type "list") = false := by decide
  have h3 : (Value.type "zip" == Value.type "tuple") = false := by decide
  simp only [h1, h2, h3, Bool.or_false, Bool.false_eq_true, if_false]
  refine wpAny_bind (hit s.heap (fun _ _ _ e => e) ?_)
  refine wpAny_bind (wpAny_holding (zip_hint2 hT ?_))
  refine wpAny_ite_split (fun _ => ?_) (fun hf => absurd rfl hf)
  refine wpAny_bind (wpAny_rule ?_)
  refine wpAny_bind ?_
  show wpAny _ _ (updateSeq S (·.push .none) >>= fun _ => updateSeq S (·.pop)) _ _ _
  refine wpAny_bind (wpAny_updateSeq hS rfl ?_)
  have hS₂ := Heap.get?_update_self (Obj.mapSeq (·.push Value.none)) hS rfl
  refine wpAny_updateSeq (hz := by seq_fits) hS₂ rfl ?_
  have hS₃ := Heap.get?_update_self (Obj.mapSeq (·.pop)) hS₂ rfl
  refine wpAny_pure ⟨plainId_quiet PySem.F.plain_extend_loop _, key _ _ (fun b o hb e => ?_) hS₃ ?_⟩
  · exact (Heap.get?_update_other _ _ (Ne.symm hb)).trans ((Heap.get?_update_other _ _ (Ne.symm hb)).trans e)
  · rw [Heap.size_update, Heap.size_update]
    exact Nat.le_refl _
theorem mz_init (hh : A.handled = none) (D : ZSep z TI TO i1 i2 l1 l2) (f1 : l1 ≠ i1) (f2 : l2 ≠ i2) (O : ZUff z TI TO i1 i2 l1 l2 S) (L : ZMow z TI TO i1 i2 S s.heap.objs.size) (st : ZTt t1 t2 z TI TO i1 i2 l1 l2 S xs ys 0 s.heap)
    (hS : s.heap.get? S = some { cls := .type "list", data := .seq #[] }) (hT : s.TypeIs (.ref z) "zip") (hit : ∀ (h : Heap), (∀ b o, b ≠ S → s.heap.get? b = some o → h.get? b = some o) → ∀ {A' : Around} {E' : Value → Shared → Prop} {Q : Value → Shared → Prop}, Q (.ref z) { s with heap := h } → wpAny (model prog w) A' (pyIter (.ref z)) Q E' { s with heap := h })
    (hz : min xs.size ys.size ≤ sizeLine)
    (hR : ∀ h' tk acc c as, (∀ b o, b ≠ S → b ≠ z → b ≠ TO → b ≠ i1 → b ≠ i2 → s.heap.get? b = some o → h'.get? b = some o) → h'.get? S = some { cls := .type "list", dict := none, data := .seq acc c, slots := #[] } → as.length = min xs.size ys.size → ZHG xs ys s.heap.objs.size h' as →
      acc.toList = as.map Value.ref → R (.ok (.ret .none)) { s with heap := h', toks := tk }) :
    wpAny (model prog w) A.in1 (Builtin.«list.__init__» ⟨[.ref S, .ref z], []⟩)
      (fun fin s' => match fin with | .done f => R (.ok f) s' | .again c' => c'.quiet = true ∧ codeAny (model prog w) A c' R s') (fun e s' => R (.error e) s') s := by
  show wpAny _ _ (do let old ← Builtin.List.listItems (.ref S); Builtin.List.listUpdate (.ref S) (fun _ => #[]); letGo old.toList.reverse; Builtin.List.listExtendWith (.ref S) (.ref z) .none) _ _ s
  refine wpAny_bind ?_
  unfold Builtin.List.listItems
  refine wpAny_bind (wpAny_seqItems hS rfl (wpAny_pure ?_))
  show wpAny _ _ (updateSeq S (fun _ => #[]) >>= fun _ => letGo (#[] : Array Value).toList.reverse >>= fun _ => Builtin.List.listExtendWith (.ref S) (.ref z) .none) _ _ s
  refine wpAny_bind (wpAny_updateSeq hS rfl ?_)
  have hS₂ := Heap.get?_update_self (Obj.mapSeq (fun _ => (#[] : Array Value))) hS rfl
  have oth : ∀ b o, b ≠ S → s.heap.get? b = some o → (s.heap.update S (Obj.mapSeq (fun _ => (#[] : Array Value)))).get? b = some o := fun b o hb e => (Heap.get?_update_other _ _ (Ne.symm hb)).trans e
  refine wpAny_bind (wpAny_letGo ?_)
  have hsz : (s.heap.update S (Obj.mapSeq (fun _ => (#[] : Array Value)))).objs.size = s.heap.objs.size := Heap.size_update ..
  refine mz_extend hh D f1 f2 O (by show ZMow z TI TO i1 i2 S (s.heap.update S _).objs.size; rw [hsz]; exact L) (st.keep O oth) .none _ hS₂ (let ⟨o, ho, hc⟩ := hT; ⟨o, oth z o O.z ho, hc⟩) (fun h hk {A' E' Q} q => hit h (fun b o hb e => hk b o hb (oth b o hb e)) q) hz fun h' tk' acc c as hk hS' hl hG hacc => ?_
  refine hR h' tk' acc c as (fun b o e1 e2 e3 e4 e5 e => hk b o e1 e2 e3 e4 e5 (oth b o e1 e)) hS' hl ?_ hacc
  have hG : ZHG xs ys (s.heap.update S (Obj.mapSeq (fun _ => (#[] : Array Value)))).objs.size h' as := hG
  rw [hsz] at hG
  exact hG
/-- list(z), z a new zip of two sequences -/
theorem mz_call {N : Addr} {Q : Value → Shared → Prop} (hh : A.handled = none) (hN : s.heap.objs.size = N + 5) (h1 : l1 < N) (h2 : l2 < N) (hzp : IsZip s.heap (N + 4) (N + 2) (N + 3) .none) (hTI : IsPair s.heap (N + 2) (.ref N) (.ref (N + 1))) (hTO : ∃ a b, IsPair s.heap (N + 3) a b)
    (hi1 : ItA t1 s.heap N l1 0) (hi2 : ItA t2 s.heap (N + 1) l2 0) (hl1 : IsA t1 s.heap l1 xs) (hl2 : IsA t2 s.heap l2 ys) (hz : min xs.size ys.size ≤ sizeLine)
    (hQ : ∀ h' tk acc c as, (∀ b o, b < N → s.heap.get? b = some o → h'.get? b = some o) → h'.get? (N + 5) = some { cls := .type "list", dict := none, data := .seq acc c, slots := #[] } → as.length = min xs.size ys.size → ZHG xs ys (N + 6) h' as →
      acc.toList = as.map Value.ref → Q (.ref (N + 5)) { s with heap := h', toks := tk }) : wpAny (model prog w) A (call (.type "list") [.ref (N + 4)]) Q E s := by
  have lt5 : ∀ j : Nat, j ≤ 4 → (N + j : Nat) < N + 5 := fun j hj => Nat.add_lt_add_left (by omega) N
  have ne5 : ∀ j : Nat, j ≤ 4 → (N + j : Nat) ≠ N + 5 := fun j hj => Nat.ne_of_lt (lt5 j hj)
  have lo : ∀ b : Nat, b < N → b ≠ N + 5 := fun b hb => Nat.ne_of_lt (Nat.lt_of_lt_of_le hb (Nat.le_add_right N 5))
  have O : ZUff (N + 4) (N + 2) (N + 3) N (N + 1) l1 l2 (N + 5) := ⟨ne5 4 (by decide), ne5 2 (by decide), ne5 3 (by decide), ne5 0 (by decide), ne5 1 (by decide), lo _ h1, lo _ h2⟩
  refine callType_codes (Q₁ := fun obj s₁ => obj = .ref s.heap.objs.size ∧ s₁ = { s with heap := s.heap.push { cls := .type "list", data := .seq #[] } }) PySem.F.called_list (PySem.F.typeCall_list_1 _) PySem.F.entry_list_init
    (code_list_new _ ⟨rfl, rfl⟩) fun obj s₁ h₁ => ?_
  obtain ⟨rfl, rfl⟩ := h₁
  have hS : (s.heap.push { cls := .type "list", data := .seq #[] }).get? s.heap.objs.size = some { cls := .type "list", data := .seq #[] } := Heap.get?_push_size _ rfl
  rw [hN] at hS ⊢
  have pk : ∀ b o, s.heap.get? b = some o → (s.heap.push { cls := .type "list", data := .seq #[] }).get? b = some o := fun b o e => Heap.get?_push_of_some _ e
  have hsz : (s.heap.push { cls := .type "list", data := .seq #[] }).objs.size = N + 6 := by rw [Heap.size_push, hN]
  have st : ZTt t1 t2 (N + 4) (N + 2) (N + 3) N (N + 1) l1 l2 (N + 5) xs ys 0 (s.heap.push { cls := .type "list", data := .seq #[] }) :=
    ⟨pk _ _ hTI, itA_at hi1 fun o e => pk _ o e, itA_at hi2 fun o e => pk _ o e, isA_at hl1 fun o e => pk _ o e, isA_at hl2 fun o e => pk _ o e, .inl ⟨pk _ _ hzp, by obtain ⟨a, b, e⟩ := hTO; exact ⟨a, b, pk _ _ e⟩⟩⟩
  refine ⟨⟨_, hS, rfl⟩, PySem.F.args_list_init_2 _ _, mz_init (A := A.in1) hh (zip_sep2 (N := N) (fp1 := [l1]) (fp2 := [l2]) (by simpa using h1) (by simpa using h2)) (Nat.ne_of_lt h1) (Nat.ne_of_lt (Nat.lt_succ_of_lt h2)) O ?_ st hS ⟨_, pk _ _ hzp, rfl⟩ (fun h hk {A' E' Q} q => wpAny_pyIter_zip (hk _ _ (ne5 4 (by decide)) (pk _ _ hzp)) q) hz fun h' tk' acc c as hk hS' hl hG hacc => ?_⟩
  · show ZMow _ _ _ _ _ _ (s.heap.push _).objs.size
    rw [hsz]
    have lt6 : ∀ j : Nat, j ≤ 5 → (N + j : Nat) < N + 6 := fun j hj => Nat.add_lt_add_left (by omega) N
    exact ⟨lt6 4 (by decide), lt6 3 (by decide), lt6 0 (by decide), lt6 1 (by decide), lt6 5 (by decide)⟩
  · have hG : ZHG xs ys (s.heap.push { cls := .type "list", data := .seq #[] }).objs.size h' as := hG
    rw [hsz] at hG
    refine ⟨rfl, hQ h' tk' acc c as (fun b o hb e => ?_) hS' hl hG hacc⟩
    have hne : ∀ j : Nat, b ≠ N + j := fun j => Nat.ne_of_lt (Nat.lt_of_lt_of_le hb (Nat.le_add_right N j))
    exact hk b o (hne 5) (hne 4) (hne 3) (hne 0) (hne 1) (pk b o e)
end
/-- list(zip(a, b)) of two sequences -/
def tListZip2 (K : PySem.W.Frag) (ta : TA) : TE := fun σ H Q => ta σ H fun vs H1 => ∃ (t1 t2 : Bool) (a b : Addr) (xs ys : List V), vs = [.ref a, .ref b] ∧ SqA K t1 H1 a xs ∧ SqA K t2 H1 b ys ∧
  ∀ (H' : Hp) (p : Addr) (ts : List Addr), (∀ b o, H1 b = some o → H' b = some o) → H1 p = none → H' p = some (.lst (ts.map V.ref)) → Paired (fun (t : Addr) (q : V × V) => H' t = some (.tup [q.1, q.2])) ts (zipV xs ys) → Q (.ref p) H'
theorem pe_listZip2 {X : Cx} {a b : Expr} {ta : TA} {p p2 pos pos2 : Pos} (hc : X.calm = true) (hgl : Gl X "list") (hml : X.mg "list" = none) (hvl : bootBuiltins "list" = some (.type "list")) (hg : Gl X "zip") (hm : X.mg "zip" = none) (ha : PA X [a, b] ta) (hs : starEach [a, b] X.env = (false, eval a X.env) :: starEach [b] X.env) (hpl : (backTo pos2 (starEach [b] X.env)).any (·.1) = false)
    (hs2 : starEach [.Call (.Name "zip" p2) [a, b] [] pos2] X.env = (false, eval (.Call (.Name "zip" p2) [a, b] [] pos2) X.env) :: starEach [] X.env) : PE X (.Call (.Name "list" p) [.Call (.Name "zip" p2) [a, b] [] pos2] [] pos) (tListZip2 X.K ta) := by
  refine ⟨fun pins s σ H Q I hq => ?_⟩
  refine wpAny_Call_Name_kw (ld_blt I hgl hml hvl ?_)
  refine PyProof.Rows.callWith_type1 ?_ hs2 rfl
  rw [hs2]
  show wpAny _ _ (spliced ((false, eval (.Call (.Name "zip" p2) [a, b] [] pos2) X.env) :: backTo pos (starEach [] X.env))) _ _ s
  refine Calls.spliced_cons ?_
  refine Call_ (ld_blt I hg hm PyProof.Rows.boot_zip (PyProof.Rows.callWith_type1 (thn (ha.run pos2 pins s σ H _ I hq) fun us s1 ⟨vs, H1, I1, r1, q1⟩ => ?_) hs hpl))
  obtain ⟨t1, t2, c, d, xs, ys, ex, hqx, hqy, q⟩ := q1
  subst ex
  cases r1 with
  | cons r rr => cases rr with
    | cons r' rr =>
      cases rr
      cases r
      cases r'
      have hlz : xs.length ≤ sizeLine := by
        cases t1 with
        | true => obtain ⟨_, _, _, hz⟩ := I1.tuple hqx; exact hz
        | false => obtain ⟨_, _, _, hz⟩ := I1.list hqx; exact hz
      obtain ⟨its, rv, p1, la⟩ := invA I1 hqx
      obtain ⟨its2, rv2, p2', lb⟩ := invA I1 hqy
      refine zip_begins2 (beginsA t1 c its.toArray) (beginsA t2 d its2.toArray) p1 p2' fun h1 hz hTI hTO hi1 hi2 hsz hk => ?_
      refine Calls.spliced_nil ?_
      have ll : min its.toArray.size its2.toArray.size ≤ sizeLine := by
        have := rv.length
        simp only [List.size_toArray]
        omega
      refine mz_call (s := { s1 with heap := h1 }) (t1 := t1) (t2 := t2) (l1 := c) (l2 := d) (xs := its.toArray) (ys := its2.toArray) (I1.ok.hd hc) hsz la lb hz hTI ⟨_, _, hTO⟩ (itA_of hi1) (itA_of hi2) (isA_at p1 fun o e => hk _ o e) (isA_at p2' fun o e => hk _ o e) ll fun h2 tk acc cc as hk2 hS hl hG hacc => ?_
      have hl2 : as.length = (zipV xs ys).length := by
        rw [hl, zipV_len, rv.length, rv2.length]
        simp
      have hp : Paired (fun (a : Addr) (q : V × V) => ∃ x y, RelV q.1 x ∧ RelV q.2 y ∧ h2.get? a = some { cls := .type "tuple", data := .seq #[x, y] }) as (zipV xs ys) := paired_of hl2 fun i a qq e1 e2 => by
        obtain ⟨x, y, f1, f2, f3⟩ := hG.pairs i a e1
        obtain ⟨g1, g2⟩ := zipV_get xs ys i qq e2
        obtain ⟨u, k1, k2⟩ := rv.get g1
        obtain ⟨u2, k3, k4⟩ := rv2.get g2
        have z1 : its.toArray[i]? = some u := by simpa using k1
        have z2 : its2.toArray[i]? = some u2 := by simpa using k3
        rw [f1] at z1
        rw [f2] at z2
        cases z1
        cases z2
        exact ⟨x, y, k2, k4, f3⟩
      have hNN : (s1.heap.objs.size + 5 : Nat) ∉ as := fun z => absurd (hG.above _ z) (Nat.not_le_of_gt (Nat.lt_succ_self _))
      obtain ⟨H', kp, nS, eS, atP, I2⟩ := pairs_laid (S := s1.heap.objs.size + 5) (h' := h2) I1 (fun b o e => hk2 b o (Heap.lt_size e) (hk b o e)) hS hacc (hG.rise.imp fun h => Nat.ne_of_lt h) hNN (by rw [hl]; exact ll) (Nat.le_add_right _ _) (fun a ha => Nat.le_trans (Nat.le_add_right _ 6) (hG.above a ha)) hp
      have I3 : L2.Inv X pins σ H' { s1 with heap := h2, toks := tk } := I2.kept (t' := tk) (fun b o e => e)
      exact ⟨.ref (s1.heap.objs.size + 5), H', I3, rfl, q H' _ as kp nS eS atP⟩
end Bi

end
section
set_option Elab.async false
set_option linter.all false
set_option autoImplicit false
set_option maxRecDepth 100000
set_option maxHeartbeats 1000000
/-! Bi22: list(zip(..)), list(d.items()), list(range(..)), displays with stars, dict displays, d.get. -/
namespace Bi
open PySem L2
section
variable {K : PySem.W.Frag} {mg : Str → Option Value} {H H' : Hp} {ρ : Nat → Addr} {s : Sg}
theorem keep_ext (k : ∀ b o, H b = some o → H' b = some o) : Keep K H H' := by
  refine ⟨fun a vs q => ?_, fun a vs q => ?_, fun _ _ q => k _ _ q, fun _ _ q => k _ _ q, fun _ _ t => t.ext k⟩
  · rcases q with (q | ⟨ob, q⟩) | q
    · exact .inl (.inl (k _ _ q))
    · exact .inl (.inr ⟨ob, k _ _ q⟩)
    · exact .inr q
  · rcases q with ⟨ob, q⟩ | q
    · exact .inl ⟨ob, k _ _ q⟩
    · exact .inr q
/-- a new cell in a heap that has it already -/
theorem nx_push' {o : PO} {p : Addr} (rel : Rel K mg ρ s H) (k : ∀ b u, H b = some u → H' b = some u) (hp : H p = none) (hb : o.bd s.g.length = true) (hc : CellRel K mg H' ρ o p) : Nx K mg ρ s H (rput ρ s.g.length p) (s.push o) H' := by
  have kp : Keep K H H' := keep_ext k
  have ag : ∀ i, i < s.g.length → rput ρ s.g.length p i = ρ i := fun i hi => rput_ne (by omega)
  have ln : (s.push o).g.length = s.g.length + 1 := by show (s.g ++ [o]).length = _; simp
  have at_ : ∀ (i : Nat) (ob : PO), (s.g ++ [o])[i]? = some ob → (i < s.g.length ∧ s.g[i]? = some ob) ∨ (i = s.g.length ∧ ob = o) := fun i ob e => by
    by_cases hi : i < s.g.length
    · rw [List.getElem?_append_left hi] at e
      exact .inl ⟨hi, e⟩
    · have hi2 : i < (s.g ++ [o]).length := (List.getElem?_eq_some_iff.mp e).1
      have hi3 : i = s.g.length := by simp at hi2; omega
      subst hi3
      rw [List.getElem?_append_right (Nat.le_refl _), Nat.sub_self] at e
      exact .inr ⟨rfl, (Option.some.inj e).symm⟩
  refine ⟨⟨fun i ob e => ?_, fun i j hi hj e => ?_, fun i ob e => ?_⟩, kp, ag, by omega, fun n kvs e => ?_⟩
  · rcases at_ i ob e with ⟨hi, e1⟩ | ⟨hi, rfl⟩
    · rw [ag i hi]
      exact CellRel.mono kp ag (rel.wf i ob e1) (rel.cell i ob e1) fun u q => k _ _ q
    · subst hi
      rw [rput_eq]
      exact CellRel.mono Keep.refl ag hb hc fun _ q => q
  · rw [ln] at hi hj
    by_cases h1 : i = s.g.length
    · by_cases h2 : j = s.g.length
      · omega
      · rw [h1, rput_eq, rput_ne h2] at e
        exact absurd e.symm (rel.nofr hp (by omega))
    · by_cases h2 : j = s.g.length
      · rw [h2, rput_eq, rput_ne h1] at e
        exact absurd e (rel.nofr hp (by omega))
      · rw [rput_ne h1, rput_ne h2] at e
        exact rel.inj i j (by omega) (by omega) e
  · rw [ln]
    rcases at_ i ob e with ⟨hi, e1⟩ | ⟨hi, rfl⟩
    · exact PO.bd_mono (Nat.le_succ _) (rel.wf i ob e1)
    · exact PO.bd_mono (Nat.le_succ _) hb
  · have hn : n < s.g.length := (List.getElem?_eq_some_iff.mp e).1
    refine ⟨?_, fun o' ws q => k _ _ q⟩
    show (s.g ++ [o])[n]? = _
    rw [List.getElem?_append_left hn]
    exact e
/-- a list of new pairs -/
theorem nx_pairs {p : Addr} {ts : List Addr} {qs : List (V × V)} {zs : List PV} (rel : Rel K mg ρ s H) (k : ∀ b u, H b = some u → H' b = some u) (hp : H p = none) (eS : H' p = some (.lst (ts.map V.ref))) (hts : Paired (fun (t : Addr) (q : V × V) => H' t = some (.tup [q.1, q.2])) ts qs)
    (hzs : Paired (fun (z : PV) (q : V × V) => ∃ x y, z = .tup [x, y] ∧ x.bd s.g.length = true ∧ y.bd s.g.length = true ∧ RV K mg H ρ x q.1 ∧ RV K mg H ρ y q.2) zs qs) : Nx K mg ρ s H (rput ρ s.g.length p) (s.push (.lst zs)) H' := by
  have kp : Keep K H H' := keep_ext k
  refine nx_push' rel k hp (List.all_eq_true.mpr fun z hz => ?_) ⟨ts.map V.ref, eS, paired_of (by rw [List.length_map, hts.length, hzs.length]) fun i z v e1 e2 => ?_⟩
  · obtain ⟨j, hj⟩ := List.mem_iff_getElem?.mp hz
    obtain ⟨q, _, x, y, rfl, b1, b2, _⟩ := paired_some hzs hj
    rw [bd_tup]
    simp [b1, b2]
  · rw [List.getElem?_map] at e2
    cases e3 : ts[i]? with
    | none => rw [e3] at e2; cases e2
    | some t =>
      rw [e3] at e2
      cases e2
      obtain ⟨q, e4, ht⟩ := paired_some hts e3
      obtain ⟨q2, e5, x, y, rfl, b1, b2, r1, r2⟩ := paired_some hzs e1
      rw [e4] at e5
      cases e5
      exact RV.tup_iff.mpr ⟨t, _, rfl, SqT.of ht, .cons (RV.mono kp (fun _ _ => rfl) r1 b1) (.cons (RV.mono kp (fun _ _ => rfl) r2 b2) .nil)⟩
end
theorem zip_paired {K : PySem.W.Frag} {mg : Str → Option Value} {H : Hp} {ρ : Nat → Addr} {n : Nat} : ∀ {xs ys : List PV} {us vs : List V}, RVs K mg H ρ xs us → RVs K mg H ρ ys vs → xs.all (PV.bd n) = true → ys.all (PV.bd n) = true →
    Paired (fun (z : PV) (q : V × V) => ∃ x y, z = .tup [x, y] ∧ x.bd n = true ∧ y.bd n = true ∧ RV K mg H ρ x q.1 ∧ RV K mg H ρ y q.2) (zipP xs ys) (zipV us vs)
  | _, _, _, _, .nil, h, _, _ => by cases h <;> exact .nil
  | _, _, _, _, .cons _ _, .nil, _, _ => .nil
  | x :: xs, y :: ys, _, _, .cons h1 t1, .cons h2 t2, b1, b2 => by
    rw [List.all_cons, Bool.and_eq_true] at b1 b2
    exact .cons ⟨x, y, rfl, b1.1, b2.1, h1, h2⟩ (zip_paired t1 t2 b1.2 b2.2)
def vListZip : List PV → Sg → R PV
  | [v, w], s => (match seqOf v s, seqOf w s with
    | some xs, some ys => .ok (.ref s.g.length) (s.push (.lst (zipP xs ys)))
    | _, _ => .bad)
  | _, _ => .bad
theorem vListZip_gd (v : List PV) (s : Sg) : GdR s (vListZip v s) := by
  unfold vListZip
  split
  · split
    · exact Gd.push _ _
    · trivial
  · trivial
section
variable {X : Cx} {W : WX} {φ : Phi} {T : Tab} {k : Nat} {m ma mb mc mo mi : ME} {ml : ML} {e a b c o i tg f : Expr} {es : List Expr} {pos p p1 : Pos} {x y z : Str}
theorem sim_listZip {p2 pos2 : Pos} (hc : X.calm = true) (hgl : Gl X "list") (hml : X.mg "list" = none) (hvl : bootBuiltins "list" = some (.type "list")) (hg : Gl X "zip") (hm : X.mg "zip" = none) (ha : SimA X W φ ml [a, b]) (hs : starEach [a, b] X.env = (false, eval a X.env) :: starEach [b] X.env) (hpl : (backTo pos2 (starEach [b] X.env)).any (·.1) = false)
    (hs2 : starEach [.Call (.Name "zip" p2) [a, b] [] pos2] X.env = (false, eval (.Call (.Name "zip" p2) [a, b] [] pos2) X.env) :: starEach [] X.env) : Sim X W φ (mB vListZip ml) (.Call (.Name "list" p) [.Call (.Name "zip" p2) [a, b] [] pos2] [] pos) := by
  refine Sim.mk1 (PE.imp (pe_listZip2 hc hgl hml hvl hg hm ha.pa hs hpl hs2) fun σ H Q h => ?_) (fun _ => rfl) fun p s => (ha.gd p s).bind fun v s' _ => vListZip_gd v s'
  obtain ⟨ρ, p, s, rel, sr, h⟩ := h
  refine tA_seq rel sr h fun v s1 ρ1 H1 us e1 n1 b1 r1 sr1 h1 => ?_
  unfold vListZip at h1
  split at h1
  · rename_i v w
    cases r1 with
    | cons r1 rs => cases rs with
      | cons r2 rs =>
        cases rs
        simp only [List.all_cons, List.all_nil, Bool.and_true, Bool.and_eq_true] at b1
        split at h1
        · rename_i xs ys ex ey
          obtain ⟨a1, us1, rfl, q1, rs1, hb1⟩ := seqOf_rv n1.rel b1.1 ex r1
          obtain ⟨a2, us2, rfl, q2, rs2, hb2⟩ := seqOf_rv n1.rel b1.2 ey r2
          have k1 : ∃ t1, SqA X.K t1 H1 a1 us1 := by rcases q1 with q1 | q1; exact ⟨false, q1⟩; exact ⟨true, q1⟩
          have k2 : ∃ t2, SqA X.K t2 H1 a2 us2 := by rcases q2 with q2 | q2; exact ⟨false, q2⟩; exact ⟨true, q2⟩
          obtain ⟨t1, q1⟩ := k1
          obtain ⟨t2, q2⟩ := k2
          exact ⟨t1, t2, a1, a2, us1, us2, rfl, q1, q2, fun H' p ts kk hp eS hts => post_ok h1 (nx_pairs n1.rel kk hp eS hts (zip_paired rs1 rs2 hb1 hb2)) bd_ref_new rv_ref_new⟩
        · exact h1.elim
  · exact h1.elim
/-! ### list(d.items()) -/
def vListItems (v : PV) (s : Sg) : R PV := match v with
  | .ref n => (match s.g[n]? with | some (.dic kvs false) => .ok (.ref s.g.length) (s.push (.lst (itemsP kvs))) | _ => .bad)
  | _ => .bad
theorem vListItems_gd (v : PV) (s : Sg) : GdR s (vListItems v s) := by
  unfold vListItems
  split
  · split
    · exact Gd.push _ _
    · trivial
  · trivial
theorem items_paired {K : PySem.W.Frag} {mg : Str → Option Value} {H : Hp} {ρ : Nat → Addr} {n : Nat} : ∀ {kvs : List (Key × PV)} {ws : List (Key × V)}, RKs K mg H ρ kvs ws → (kvs.all fun kv => kv.2.bd n) = true →
    Paired (fun (z : PV) (q : V × V) => ∃ x y, z = .tup [x, y] ∧ x.bd n = true ∧ y.bd n = true ∧ RV K mg H ρ x q.1 ∧ RV K mg H ρ y q.2) (itemsP kvs) (ws.map fun w => (kV w.1, w.2))
  | _, _, .nil, _ => .nil
  | kv :: kvs, w :: ws, .cons h t, b => by
    rw [List.all_cons, Bool.and_eq_true] at b
    refine .cons ⟨kPV kv.1, kv.2, rfl, kPV_bd _ _, b.1, ?_, h.2⟩ (items_paired t b.2)
    have e := h.1
    dsimp only
    rw [← e]
    exact kPV_rv _
theorem sim_listItems {apos cpos : Pos} (hc : X.calm = true) (he : Sim X W φ m e) (hg : Gl X "list") (hm : X.mg "list" = none) (hv : bootBuiltins "list" = some (.type "list")) (hbase : attributeBase e "items" X.env (eval e X.env) = eval e X.env) (hline : (apos.endLine == cpos.line) = true)
    (hs : starEach [.Call (.Attribute e "items" apos) [] [] cpos] X.env = (false, eval (.Call (.Attribute e "items" apos) [] [] cpos) X.env) :: starEach [] X.env) : Sim X W φ (mUn vListItems m) (.Call (.Name "list" p) [.Call (.Attribute e "items" apos) [] [] cpos] [] pos) := by
  refine Sim.mk1 (PE.imp (LiI.pe_listItems hc he.pe hg hm hv hbase hline hs) fun σ H Q h => ?_) (fun _ => rfl) fun p s => (he.gd p s).bind fun v s' _ => vListItems_gd v s'
  obtain ⟨ρ, p, s, rel, sr, h⟩ := h
  refine tE_seq rel sr h fun v s1 ρ1 H1 u e1 n1 b1 r1 sr1 h1 => ?_
  unfold vListItems at h1
  cases v with
  | ref n =>
    cases r1
    simp only at h1
    cases e2 : s1.g[n]? with
    | none => rw [e2] at h1; exact h1.elim
    | some ob =>
      rw [e2] at h1
      cases ob with
      | dic kvs lk =>
        cases lk with
        | true => exact h1.elim
        | false =>
          obtain ⟨ws, q, rs⟩ := n1.rel.cell n _ e2
          refine ⟨ρ1 n, ws, rfl, q, fun H' p ts kk hp _ _ eS hts => ?_⟩
          refine post_ok h1 (nx_pairs n1.rel kk hp eS (qs := ws.map fun w => (kV w.1, w.2)) (paired_of (by rw [List.length_map]; exact hts.length) fun i t q e3 e4 => ?_) (items_paired rs (n1.rel.wf n _ e2))) bd_ref_new rv_ref_new
          rw [List.getElem?_map] at e4
          cases e5 : ws[i]? with
          | none => rw [e5] at e4; cases e4
          | some wv =>
            rw [e5] at e4
            cases e4
            exact Bi.paired_get (F := fun (t : Addr) (q : Key × V) => H' t = some (.tup [kV q.1, q.2])) hts e3 e5
      | _ => exact h1.elim
  | _ => exact h1.elim
/-! ### d.get(k, x) -/
def vGet2 (o : PV) (a : List PV) (s : Sg) : R PV := match o, a with
  | .ref n, [kx, x] => (match s.g[n]? with
    | some (.dic kvs _) => (match keyOf kx with | some k => (match dGet kvs k with | some v => .ok v s | none => .ok x s) | none => .bad)
    | _ => .bad)
  | _, _ => .bad
def kdDicR (v : PV) (s : Sg) : Bool := match v with | .ref n => (match s.g[n]? with | some (.dic _ _) => true | _ => false) | _ => false
def mGet2 (mo mi mx : ME) : ME := fun φ p s => (mo φ p s).bind fun o s => if kdDicR o s then (mi φ p s).bind fun i s => (mx φ p s).bind fun x s => vGet2 o [i, x] s else .bad
theorem vGet2_gd (o : PV) (a : List PV) (s : Sg) : GdR s (vGet2 o a s) := by
  unfold vGet2
  split
  · split
    · split
      · split
        · exact Gd.refl _
        · exact Gd.refl _
      · trivial
    · trivial
  · trivial
theorem sim_get2 {apos cpos : Pos} {mx : ME} (hu : X.A.units + 1 < cLine) (ho : Sim X W φ mo o) (he : Sim X W φ mi e) (hf : Sim X W φ mx f) (mm : M2 X o "get" apos e f cpos) : Sim X W φ (mGet2 mo mi mx) (.Call (.Attribute o "get" apos) [e, f] [] cpos) := by
  refine Sim.mk1 (PE.imp (pe_dget2 hu ho.pe he.pe hf.pe mm) fun σ H Q h => ?_) (fun _ => rfl) fun p s => (ho.gd p s).bind fun v s' _ => ?_
  · obtain ⟨ρ, p, s, rel, sr, h⟩ := h
    refine tE_seq rel sr h fun v s1 ρ1 H1 u e1 n1 b1 r1 sr1 h1 => ?_
    by_cases hk : kdDicR v s1 = true
    · rw [if_pos hk] at h1
      cases v with
      | ref n =>
        cases r1
        have hD : IsD H1 (ρ1 n) := by
          unfold kdDicR at hk
          simp only at hk
          cases e2 : s1.g[n]? with
          | none => rw [e2] at hk; cases hk
          | some ob =>
            rw [e2] at hk
            cases ob with
            | dic kvs lk =>
              obtain ⟨ws, q, _⟩ := dic_of n1.rel e2
              exact .inl ⟨ws, q⟩
            | _ => cases hk
        refine ⟨ρ1 n, rfl, hD, ?_⟩
        refine tE_seq n1.rel sr1 h1 fun kx s2 ρ2 H2 u2 e2 n2 b2 r2 sr2 h2 => ?_
        refine tE_seq n2.rel sr2 h2 fun xx s3 ρ3 H3 u3 e3 n3 b3 r3 sr3 h3 => ?_
        unfold vGet2 at h3
        simp only at h3
        have ea : ρ3 n = ρ1 n := (n2.trans n3).agr n (by rw [PV.bd] at b1; exact of_decide_eq_true b1)
        cases e4 : s3.g[n]? with
        | none => rw [e4] at h3; exact h3.elim
        | some ob =>
          rw [e4] at h3
          cases ob with
          | dic kvs lk =>
            simp only at h3
            cases e5 : keyOf kx with
            | none => rw [e5] at h3; exact h3.elim
            | some kk =>
              rw [e5] at h3
              simp only at h3
              obtain ⟨ws, q, rs⟩ := dic_of n3.rel e4
              rw [ea] at q
              have ek : u2 = kV kk := keyOf_rv e5 r2
              refine ⟨valV ws kk, .inl ⟨ws, kk, q, ek, rfl⟩, ?_⟩
              have z := dGet_none kk rs
              cases e6 : dGet kvs kk with
              | some v =>
                rw [e6] at h3
                obtain ⟨u, h4, h5, qq, h6, h7⟩ := dGet_rv kk rs v e6
                rw [h4]
                refine post_ok h3 (Nx.refl n3.rel) ?_ h5
                rw [← h7]
                exact List.all_eq_true.mp (n3.rel.wf n _ e4) qq h6
              | none =>
                rw [e6] at h3 z
                have hn : valV ws kk = none := by
                  cases e7 : valV ws kk with
                  | none => rfl
                  | some _ => rw [e7] at z; cases z
                rw [hn]
                exact post_ok h3 (Nx.refl n3.rel) b3 r3
          | _ => exact h3.elim
      | _ => cases hk
    · rw [if_neg hk] at h1
      exact h1.elim
  · show GdR s' (if kdDicR v s' then (mi φ p s').bind fun i s => (mx φ p s).bind fun x s => vGet2 v [i, x] s else .bad)
    split
    · exact (he.gd p s').bind fun i s2 _ => (hf.gd p s2).bind fun x s3 _ => vGet2_gd _ _ _
    · trivial
/-! ### stars in displays -/
def mStar (m : ME) (r : ML) : ML := fun φ p s => (m φ p s).bind fun v s => match seqOf v s with
  | some xs => (r φ p s).bind fun vs s => .ok (xs ++ vs) s
  | none => .bad
theorem sima_star {mr : ML} (he : Sim X W φ m e) (hr : SimA X W φ mr es) (hs : starEach (.Starred e p :: es) X.env = (true, eval e X.env) :: starEach es X.env) : SimA X W φ (mStar m mr) (.Starred e p :: es) := by
  refine ⟨PA.imp (StX.pa_star he.pe hr.pa hs) fun σ H Q h => ?_, fun p s => (he.gd p s).bind fun v s' _ => ?_⟩
  · obtain ⟨ρ, p, s, rel, sr, h⟩ := h
    refine tE_seq rel sr h fun v s1 ρ1 H1 u e1 n1 b1 r1 sr1 h1 => ?_
    cases e2 : seqOf v s1 with
    | none => rw [e2] at h1; exact h1.elim
    | some xs =>
      rw [e2] at h1
      obtain ⟨a, us, rfl, q, rs, hb⟩ := seqOf_rv n1.rel b1 e2 r1
      refine ⟨a, us, rfl, q.symm, ?_⟩
      refine tA_seq n1.rel sr1 h1 fun w s2 ρ2 H2 us2 e3 n2 b2 r2 sr2 h2 => ?_
      exact h2 ρ2 H2 (us ++ us2) (Nx.refl n2.rel) ⟨all_append (n2.bls hb) b2, paired_append (n2.rvs rs hb) r2⟩
  · split
    · exact (hr.gd p s').bind fun vs s2 _ => Gd.refl _
    · trivial
end
end Bi

end
section
set_option Elab.async false
set_option linter.all false
set_option autoImplicit false
set_option maxRecDepth 100000
set_option maxHeartbeats 1000000
/-! Bi23: dict displays; list(range(..)); the place of a text in a constant. -/
namespace Bi
open PySem L2
section
variable {X : Cx} {W : WX} {φ : Phi} {T : Tab} {k : Nat} {m ma mb mc mo mi : ME} {ml : ML} {e a b c o i tg f : Expr} {es : List Expr} {pos p p1 : Pos} {x y z : Str}
def mPairs : List (ME × ME) → Phi → Sl → Sg → R (List (PV × PV))
  | [], _, _, s => .ok [] s
  | (mk, mv) :: r, φ, p, s => (mk φ p s).bind fun a s => (mv φ p s).bind fun b s => (mPairs r φ p s).bind fun l s => .ok ((a, b) :: l) s
inductive SimPs (X : Cx) (W : WX) (φ : Phi) : List (ME × ME) → List (Option Expr) → List Expr → Prop where
  | nil : SimPs X W φ [] [] []
  | cons {mk mv : ME} {ms : List (ME × ME)} {ke ve : Expr} {ks : List (Option Expr)} {vs : List Expr} (h1 : Sim X W φ mk ke) (h2 : Sim X W φ mv ve) (h3 : SimPs X W φ ms ks vs) : SimPs X W φ ((mk, mv) :: ms) (some ke :: ks) (ve :: vs)
abbrev tPs (X : Cx) (W : WX) (φ : Phi) (ms : List (ME × ME)) : List (TE × TE) := ms.map fun q => (tE X.K X.mg W φ q.1, tE X.K X.mg W φ q.2)
theorem SimPs.pps : ∀ {ms : List (ME × ME)} {ks : List (Option Expr)} {vs : List Expr}, SimPs X W φ ms ks vs → PPs X pos ks vs (tPs X W φ ms)
  | _, _, _, .nil => pps_nil
  | _, _, _, .cons h1 h2 h3 => pps_cons h1.pe h2.pe h3.pps
theorem mPairs_gd : ∀ {ms : List (ME × ME)} {ks : List (Option Expr)} {vs : List Expr}, SimPs X W φ ms ks vs → ∀ (p : Sl) (s : Sg), GdR s (mPairs ms φ p s)
  | _, _, _, .nil, p, s => Gd.refl s
  | _, _, _, .cons h1 h2 h3, p, s => (h1.gd p s).bind fun a s1 _ => (h2.gd p s1).bind fun b s2 _ => (mPairs_gd h3 p s2).bind fun l s3 _ => Gd.refl s3
def RPs (K : PySem.W.Frag) (mg : Str → Option Value) (H : Hp) (ρ : Nat → Addr) (s : Sg) (l : List (PV × PV)) (us : List (V × V)) : Prop := Paired (fun (q : PV × PV) (u : V × V) => q.1.bd s.g.length = true ∧ q.2.bd s.g.length = true ∧ RV K mg H ρ q.1 u.1 ∧ RV K mg H ρ q.2 u.2) l us
theorem tPairs_seq {β : Type} {α' : Type} {RR : Hp → (Nat → Addr) → Sg → α' → β → Prop} {Q : β → Hp → Prop} {p : Sl} {σ : L2.St} : ∀ (ms : List (ME × ME)) {f : List (PV × PV) → Sg → R α'} {Q' : List (V × V) → Hp → Prop} {ρ : Nat → Addr} {s : Sg} {H : Hp}, Rel X.K X.mg ρ s H → SRel X.K X.mg ρ s H p σ →
    Post X.K X.mg RR W ρ s H σ Q ((mPairs ms φ p s).bind f) → (∀ l s1 ρ1 H1 us, Nx X.K X.mg ρ s H ρ1 s1 H1 → RPs X.K X.mg H1 ρ1 s1 l us → Post X.K X.mg RR W ρ1 s1 H1 σ Q (f l s1) → Q' us H1) → tPairs (tPs X W φ ms) σ H Q'
  | [], f, Q', ρ, s, H, rel, sr, h, k => k [] s ρ H [] (Nx.refl rel) .nil h
  | (mk, mv) :: ms, f, Q', ρ, s, H, rel, sr, h, k => by
    have e0 : (mPairs ((mk, mv) :: ms) φ p s).bind f = (mk φ p s).bind fun a s => (mv φ p s).bind fun b s => (mPairs ms φ p s).bind fun l s => f ((a, b) :: l) s := by
      show ((mk φ p s).bind fun a s => (mv φ p s).bind fun b s => (mPairs ms φ p s).bind fun l s => .ok ((a, b) :: l) s).bind f = _
      cases mk φ p s with
      | bad => rfl
      | err C v s1 => rfl
      | ok a s1 =>
        show ((mv φ p s1).bind fun b s => (mPairs ms φ p s).bind fun l s => .ok ((a, b) :: l) s).bind f = (mv φ p s1).bind _
        cases mv φ p s1 with
        | bad => rfl
        | err C v s2 => rfl
        | ok b s2 =>
          show ((mPairs ms φ p s2).bind fun l s => .ok ((a, b) :: l) s).bind f = (mPairs ms φ p s2).bind _
          cases mPairs ms φ p s2 <;> rfl
    rw [e0] at h
    refine tE_seq rel sr h fun a s1 ρ1 H1 u e1 n1 b1 r1 sr1 h1 => ?_
    refine tE_seq n1.rel sr1 h1 fun b s2 ρ2 H2 v e2 n2 b2 r2 sr2 h2 => ?_
    refine tPairs_seq ms n2.rel sr2 h2 fun l s3 ρ3 H3 us n3 rl h3 => ?_
    have n13 := n2.trans n3
    exact k _ s3 ρ3 H3 _ (n1.trans n13) (.cons ⟨n13.bl b1, n3.bl b2, n13.rv r1 b1, n3.rv r2 b2⟩ rl) h3
def asKV2 (q : PV × PV) : Option (Key × PV) := (keyOf q.1).map fun k => (k, q.2)
theorem kvs_of2 {K : PySem.W.Frag} {mg : Str → Option Value} {H : Hp} {ρ : Nat → Addr} {s : Sg} : ∀ {l : List (PV × PV)} {us : List (V × V)} {kvs : List (Key × PV)}, l.mapM asKV2 = some kvs → RPs K mg H ρ s l us → ∃ ws : List (Key × V), us = ws.map (fun w => (kV w.1, w.2)) ∧ RKs K mg H ρ kvs ws ∧ (kvs.all fun kv => kv.2.bd s.g.length) = true
  | [], us, kvs, e, r => by
    cases r
    have e' : some ([] : List (Key × PV)) = some kvs := by simpa using e
    rw [← Option.some.inj e']
    exact ⟨[], rfl, .nil, rfl⟩
  | q :: l, us, kvs, e, r => by
    obtain ⟨kv, ys, e1, e2, rfl⟩ := mapM_cons e
    cases r with
    | @cons _ u _ us h t =>
      obtain ⟨ws, h1, h2, h3⟩ := kvs_of2 e2 t
      unfold asKV2 at e1
      cases e4 : keyOf q.1 with
      | none => rw [e4] at e1; cases e1
      | some k =>
        rw [e4] at e1
        have e5 := Option.some.inj e1
        subst e5
        refine ⟨(k, u.2) :: ws, ?_, .cons ⟨rfl, h.2.2.2⟩ h2, ?_⟩
        · rw [h1, List.map_cons]
          have : u.1 = kV k := keyOf_rv e4 h.2.2.1
          rw [← this]
        · rw [List.all_cons, h3, h.2.1]; rfl
def mDisp (ms : List (ME × ME)) : ME := fun φ p s => (mPairs ms φ p (s.push (.dic [] false))).bind fun l s1 => match s1.g[s.g.length]?, l.mapM asKV2 with
  | some (.dic [] false), some kvs => if kvs.length ≤ 15 then .ok (.ref s.g.length) (s1.wr s.g.length (.dic (dMerge [] kvs) false)) else .bad
  | _, _ => .bad
theorem simPs_len : ∀ {ms : List (ME × ME)} {ks : List (Option Expr)} {vs : List Expr}, SimPs X W φ ms ks vs → ks.all (·.isSome) = true ∧ ks.length = vs.length ∧ ms.length = ks.length
  | _, _, _, .nil => ⟨rfl, rfl, rfl⟩
  | _, _, _, .cons _ _ h => ⟨by rw [List.all_cons, (simPs_len h).1]; rfl, congrArg Nat.succ (simPs_len h).2.1, congrArg Nat.succ (simPs_len h).2.2⟩
theorem mapM_len {α β : Type} {f : α → Option β} : ∀ {xs : List α} {ys : List β}, xs.mapM f = some ys → ys.length = xs.length
  | [], ys, e => by
    have e' : some ([] : List β) = some ys := by simpa using e
    rw [← Option.some.inj e']
    rfl
  | x :: xs, ys, e => by
    obtain ⟨y, zs, _, e2, rfl⟩ := mapM_cons e
    exact congrArg Nat.succ (mapM_len e2)
theorem sim_disp {ms : List (ME × ME)} {ks : List (Option Expr)} {vs : List Expr} (h : SimPs X W φ ms ks vs) (h0 : ks ≠ []) (h15 : ks.length ≤ 15) : Sim X W φ (mDisp ms) (.Dict ks vs pos) := by
  obtain ⟨l1, l2, l3⟩ := simPs_len h
  refine Sim.mk1 (PE.imp (pe_disp (pos := pos) h.pps l1 l2 h0 h15) fun σ H Q q => ?_) (fun _ => rfl) fun p s => (gdR_trans (Gd.push _ _) (mPairs_gd h p _)).bind fun l s1 _ => ?_
  · obtain ⟨ρ, p, s, rel, sr, q⟩ := q
    intro D hD
    have np := rv_dic_new (kvs := []) (ws := []) rel hD rfl .nil
    have q2 := Post.step q np
    refine tPairs_seq ms np.rel (sr.mono np) q2 fun l s1 ρ1 H1 us n1 rl h1 => ?_
    have hd : s.g.length < (s.push (.dic [] false)).g.length := by show _ < (s.g ++ [_]).length; simp
    have eD : ρ1 s.g.length = D := (n1.agr _ hd).trans rput_eq
    split at h1
    · rename_i kvs e1 e2
      obtain ⟨ws0, eH, rs⟩ := n1.rel.cell _ _ e1
      cases rs
      rw [eD] at eH
      obtain ⟨ws, hu, rk, hb⟩ := kvs_of2 e2 rl
      by_cases hz : kvs.length ≤ 15
      case neg => rw [if_neg hz] at h1; exact h1.elim
      rw [if_pos hz] at h1
      have hlen : ws.length ≤ 15 := by rw [← rk.length]; exact hz
      have nw := rel_wr_dic n1.rel e1 (dMerge_bd (kvs := []) rfl hb) (dMerge_rv rk .nil)
      rw [eD] at nw
      refine ⟨eH, ws, hu, hlen, post_ok h1 nw ?_ ?_⟩
      · have := n1.bl (pv := .ref s.g.length) (by rw [PV.bd]; exact decide_eq_true hd)
        exact nw.bl this
      · have := RV.ref (K := X.K) (mg := X.mg) (H := upd H1 D (.dK (mergeK [] ws))) (ρ := ρ1) s.g.length
        rw [eD] at this
        exact this
    · exact h1.elim
  · split
    · split
      · exact Gd.wr _ _ _
      · trivial
    · trivial
def mDisp0 : ME := fun _ _ s => .ok (.ref s.g.length) (s.push (.dic [] false))
theorem sim_disp0 : Sim X W φ mDisp0 (.Dict [] [] pos) := Sim.mk1 (PE.imp pe_dnewK fun σ H Q q => by
  obtain ⟨ρ, p, s, rel, sr, q⟩ := q
  exact fun D hD => post_ok q (rv_dic_new (kvs := []) (ws := []) rel hD rfl .nil) bd_ref_new rv_ref_new) (fun _ => rfl) fun p s => Gd.push _ _
end
end Bi

end
section
set_option Elab.async false
set_option linter.all false
set_option autoImplicit false
set_option maxRecDepth 100000
set_option maxHeartbeats 1000000
/-! Bi24: from a body's Lean function to the def's promise. -/
namespace Bi
open PySem L2 PySem.Spec PyProof.Rows
/-- what a def's body gives, from its slots at the start -/
def endR : RS → R PV
  | .nx _ s => .ok .non s
  | .rt v s => .ok v s
  | .er C v _ s => .err C v s
  | _ => .bad
def startP (nsl : Nat) (args : List PV) : Sl := args.map some ++ List.replicate (nsl - args.length) none
def runFn (m : MS) (nsl : Nat) (φ : Phi) (args : List PV) (s : Sg) : R PV := gcR s.g.length s.low (endR (m φ (startP nsl args) s.top))
theorem runFn_gd {m : MS} {φ : Phi} (h : ∀ p s, GdS s (m φ p s)) (nsl : Nat) (args : List PV) (s : Sg) : GdR s (runFn m nsl φ args s) := by
  refine gdR_gc ?_
  have q := h (startP nsl args) s.top
  cases e : m φ (startP nsl args) s.top with
  | nx p s1 => rw [e] at q; exact q
  | rt v s1 => rw [e] at q; exact q
  | er C v p s1 => rw [e] at q; exact q
  | _ => trivial
section
variable {K : PySem.W.Frag} {mg : Str → Option Value}
theorem start_rel {N : List Str} {args : List PV} {vs : List V} {ρ : Nat → Addr} {s : Sg} {H : Hp} (hl : args.length ≤ N.length) (hb : args.all (PV.bd s.g.length) = true) (r : RVs K mg H ρ args vs) : SRel K mg ρ s H (startP N.length args) (L2.start N vs) := by
  have e := r.length
  refine ⟨by unfold startP L2.start; simp [e], fun i pv ei => ?_⟩
  unfold startP at ei
  by_cases hi : i < args.length
  · rw [List.getElem?_append_left (by rw [List.length_map]; exact hi), List.getElem?_map] at ei
    cases e2 : args[i]? with
    | none => rw [e2] at ei; cases ei
    | some a =>
      rw [e2] at ei
      have ea : a = pv := Option.some.inj (Option.some.inj ei)
      subst ea
      obtain ⟨v, e3, r3⟩ := paired_some r e2
      refine ⟨List.all_eq_true.mp hb a (List.mem_of_getElem? e2), v, ?_, r3⟩
      unfold L2.start
      rw [List.getElem?_append_left (by rw [List.length_map, ← e]; exact hi), List.getElem?_map, e3]
      rfl
  · rw [List.getElem?_append_right (by rw [List.length_map]; omega)] at ei
    have := List.mem_of_getElem? ei
    have := List.eq_of_mem_replicate this
    cases this
/-- the promise of the body -/
theorem body_of {X : Cx} {W : WX} {φ : Phi} {m : MS} {body : List Stmt} {N : List Str} {ρ : Nat → Addr} {s : Sg} {H : Hp} {args : List PV} {vs : List V} {Q : VK} {E : XK} (hW : ∀ c d σ H, E c d H → W c d σ H) (B : SimSs X W φ m body) (hl : args.length ≤ N.length) (rel : Rel X.K X.mg ρ s H) (hb : args.all (PV.bd s.g.length) = true) (r : RVs X.K X.mg H ρ args vs)
    (h : PostE X.K X.mg (fun c d _ H => E c d H) ρ s H [] Q (runFn m N.length φ args s)) : tS X.K X.mg W φ m { nx := fun _ H' => Q .non H', rt := Q } (L2.start N vs) H := by
  refine ⟨ρ, startP N.length args, s.top, rel.low _, (start_rel hl hb r).low _, ?_⟩
  have d : GdR s.top (endR (m φ (startP N.length args) s.top)) := by
    have q := B.gd (startP N.length args) s.top
    cases e : m φ (startP N.length args) s.top with
    | nx p s1 => rw [e] at q; exact q
    | rt v s1 => rw [e] at q; exact q
    | er C v p s1 => rw [e] at q; exact q
    | _ => trivial
  have h2 := post_gc rel d h
  cases e : m φ (startP N.length args) s.top with
  | nx p s1 =>
    rw [e] at h2
    exact fun ρ' H' σ' n _ => h2 ρ' H' .non n ⟨bd_non, .non⟩
  | rt v s1 =>
    rw [e] at h2
    exact fun ρ' H' u n b r => h2 ρ' H' u n ⟨b, r⟩
  | er C v p s1 =>
    rw [e] at h2
    exact fun ρ' H' σ' Ca dd u n _ e1 e2 e3 e4 => hW _ _ _ _ (h2 ρ' H' Ca dd u n e1 e2 e3 e4)
  | bk p s1 => rw [e] at h2; exact h2.elim
  | ct p s1 => rw [e] at h2; exact h2.elim
  | bad => rw [e] at h2; exact h2.elim
end
section
variable {P : Program} {w : World} {K : PySem.W.Frag} {mg : Str → Option Value} {base : Heap} {x qual : Str} {params : Arguments} {body : List Stmt} {scope : Scope} {dvs : List V} {kws : List (Str × V)} {f : Addr} {fd : FuncData}
/-- the context of a def's body -/
abbrev CF (P : Program) (w : World) (K : PySem.W.Frag) (mg : Str → Option Value) (base : Heap) (N : List Str) (qual : Str) (scope : Scope) (f : Addr) (cdv : Value) (A : Around) (outer : List Env) (s : Shared) (H : Hp) (E : XK) : Cx := cxOf (L2.CX P w) P w K mg base N qual scope f cdv A outer s H E
theorem fnG_ok {N ps : List Str} {k : Nat} {φ φ' : Phi} {m : MS} {q : Str} (F : FunD K x qual params body scope dvs kws f fd) (S : FnScope N ps scope) (hφ : ∀ args s, φ' q args s ≠ .bad → args.length = ps.length ∧ φ' q args s = runFn m N.length φ args s)
    (hb : ∀ (cdv : Value) (A : Around) (outer : List Env) (s : Shared) (H : Hp) (E : XK), RG k (A.deeper (envOfC qual scope s.heap.objs.size f cdv)) → SimSs (CF P w K mg base N qual scope f cdv A outer s H E) (fun c d _ H => E c d H) φ m body) :
    FnG P w K mg base (k + 1) f fd ps (spPhi K mg φ' q ps.length) := by
  obtain ⟨oc, od, dV, kV, doc, pm, an, cdv, ct, osl, rfl, lk, hcd, _, _⟩ := F.ex
  have hlen : ∀ vs H Q E, spPhi K mg φ' q ps.length vs H Q E → vs.length = ps.length := fun vs H Q E ⟨ρ, s, args, _, _, r, hn, _⟩ => by rw [← r.length]; exact hn
  refine ⟨hlen, fun A outer s H args us vs Q E hr e0 hbd r hsp => ?_⟩
  have hl := hlen _ _ _ _ hsp
  have KX : K.In s.heap := e0.mod.kin.keeps fun b o e => (e0.bs b o e).1
  have lim : s.heap.NoLimit := e0.mod.nolimit.keeps fun b o e => (e0.bs b o e).1
  refine codeAny_call_function hr.rm.depth (KX _ _ lk) rfl S.co S.gen rfl (PySem.W.codeRec_of KX hcd) (hbd _ _ _ _ (wpAny_newFunctionEnv_cells S.kind (fun ⟨n, v⟩ hy => (S.par n (List.of_mem_zip hy).1).elim .inl fun z => .inr ⟨z, PySem.W.cellsFrom_some _ _ _ (.inl z)⟩) fun env he s1 xx => ?_))
  subst he
  refine ⟨lim.keeps xx.toInCall.keep, codeAny_func ?_⟩
  have B := hb cdv A outer s H E (hr.deeper _)
  have I : L2.Inv (CF P w K mg base N qual scope f cdv A outer s H E) [] (L2.start N vs) H s1 := inv_start S hr.rm.hd e0 hl r xx
  have ht : tS K mg (fun c d _ H => E c d H) φ m { nx := fun _ H' => Q .non H', rt := Q } (L2.start N vs) H := by
    obtain ⟨ρ, sg, ar, rel, hb2, rv, hn, h⟩ := hsp
    obtain ⟨h1, h2⟩ := hφ ar sg (post_nobad h)
    rw [h2] at h
    have hNl : ps.length ≤ N.length := by
      have := congrArg List.length S.pre
      rw [List.length_take] at this
      omega
    exact body_of (X := CF P w K mg base N qual scope f cdv A outer s H E) (N := N) (fun _ _ _ _ z => z) B (by omega) rel hb2 rv h
  refine wpAny_mono (B.pss.run [] s1 _ H _ I ht) (fun fl s' hs => ?_) fun e s' hs => hs
  match fl, hs with
  | .ret u, ⟨v, σ', H', J, rv, q⟩ => exact ⟨v, H', J.os, J.bare, J.base, J.hok, rv, q⟩
  | .next, ⟨σ', H', J, q⟩ => exact ⟨V.non, H', J.os, J.bare, J.base, J.hok, rfl, q⟩
  | .brk, ⟨_, _, _, q⟩ => exact q.elim
  | .cont, ⟨_, _, _, q⟩ => exact q.elim
end
end Bi

end
section
set_option Elab.async false
set_option linter.all false
set_option autoImplicit false
set_option maxRecDepth 100000
set_option maxHeartbeats 1000000
/-! Bi25: the rules by a context's written part, each with one closed condition. -/
namespace Bi
open PySem L2 PySem.Spec PyProof.Rows
/-- the written part of a context -/
structure Ctx where
  N : List Str
  sc : Scope
  fn : Str → Bool
def Ctx.env (C : Ctx) : Env := { scope := C.sc, locals := 0, globals := 0, cells := [] }
def Ctx.blk (C : Ctx) (scope : Scope) : Ctx := ⟨C.N, relS scope C.sc, fun x => scope.names.lookup x == some .cell⟩
def Ctx.vis (C : Ctx) (i : Nat) (x : Str) : Bool := C.N[i]? == some x && (C.sc.names.lookup x == some .local || C.sc.names.lookup x == some .cell || C.sc.names.lookup x == some .free) && !(x == ("__debug__" : Str)) && !(x == ("__classdict__" : Str))
def Ctx.st (C : Ctx) (i : Nat) (x : Str) : Bool := C.N[i]? == some x && (C.sc.names.lookup x == some .local || (C.sc.names.lookup x == some .cell && C.fn x))
def Ctx.gl (C : Ctx) (x : Str) : Bool := C.sc.names.lookup x == some .globalImplicit && !(x == ("__debug__" : Str)) && !(x == ("__name__" : Str))
structure Cok (X : Cx) (W : WX) (T : Tab) (φ : Phi) (k : Nat) (C : Ctx) : Prop where
  N : X.N = C.N
  nd : X.N.Nodup
  sc : X.env.scope = C.sc
  kd : C.sc.kind = .function
  F : Facts X T φ k
  rm : RG (k + 1) X.A
  tk : Takes X W
  calm : X.calm = true
  fn : X.fn = C.fn
  po : PassesOwn (model X.prog X.w) X.A X.env X.xe
section
variable {X : Cx} {W : WX} {φ : Phi} {T : Tab} {k : Nat} {C : Ctx} {m ma mb mc mo mi : ME} {ml : ML} {e a b c o i tg f : Expr} {es : List Expr} {pos p p1 apos cpos : Pos} {x y z : Str}
theorem Cok.un (S : Cok X W T φ k C) : X.A.units + 65 < cLine := by
  have := S.rm.rm.un
  omega
theorem Cok.un1 (S : Cok X W T φ k C) : X.A.units + 1 < cLine := by
  have := S.un
  omega
theorem Cok.rk (S : Cok X W T φ k C) : RG k X.A := S.rm.mono (Nat.le_succ k)
theorem Facts.to {X' : Cx} (F : Facts X T φ k) (h1 : X'.prog = X.prog) (h2 : X'.w = X.w) (h3 : X'.K = X.K) (h4 : X'.mg = X.mg) (h5 : X'.base = X.base) : Facts X' T φ k := by
  obtain ⟨P, w, K, mg, base, A, N, s0, H0, env, outer, stack, ex, fn, calm, pn, xe⟩ := X
  obtain ⟨P', w', K', mg', base', A', N', s0', H0', env', outer', stack', ex', fn', calm', pn', xe'⟩ := X'
  dsimp only at h1 h2 h3 h4 h5
  subst h1 h2 h3 h4 h5
  exact ⟨fun x h => by
      obtain ⟨f, a1, a2, a3⟩ := F.fn x h
      exact ⟨f, a1, a2, ⟨a3.ex⟩⟩, fun C m Ca h e => by
      obtain ⟨a1, f, a2, a3⟩ := F.meth C m Ca h e
      exact ⟨a1, f, a2, ⟨a3.ex⟩⟩, fun C m Ca h e => by
      obtain ⟨a1, p, f, a2, a3⟩ := F.prop C m Ca h e
      exact ⟨a1, p, f, a2, ⟨a3.ex⟩⟩, F.attr, fun C h => by
      obtain ⟨Ca, f, a1, a2, a3⟩ := F.mkr C h
      exact ⟨Ca, f, a1, a2, ⟨a3.ex⟩⟩, F.con, F.free, F.ctup, F.gd, F.exc⟩
theorem Cok.gl (S : Cok X W T φ k C) (h : C.gl x = true) : Gl X x ∧ (x == ("__debug__" : Str)) = false ∧ x ≠ "__name__" := by
  unfold Ctx.gl at h
  simp only [Bool.and_eq_true, beq_iff_eq, Bool.not_eq_true'] at h
  obtain ⟨⟨h1, h2⟩, h3⟩ := h
  refine ⟨?_, h2, fun e => by rw [e] at h3; simp at h3⟩
  show X.env.scope.names.lookup x = _
  rw [S.sc]
  exact h1
theorem Cok.st (S : Cok X W T φ k C) {i : Nat} (h : C.st i x = true) : X.N[i]? = some x ∧ L2.Loc X.env.scope x ∧ (X.fn x = true ∨ X.env.scope.names.lookup x = some .local) := by
  unfold Ctx.st at h
  simp only [Bool.and_eq_true, Bool.or_eq_true, beq_iff_eq] at h
  unfold L2.Loc
  rw [S.sc, S.N, S.fn]
  rcases h with ⟨h1, h2 | ⟨h2, h3⟩⟩
  · exact ⟨h1, .inl h2, .inr h2⟩
  · exact ⟨h1, .inr h2, .inl h3⟩
/-- within a comprehension -/
theorem Cok.blk (S : Cok X W T φ k C) {scope : Scope} (hk : scope.kind = .function) (s : Shared) (H : Hp) (Ca : Addr) (cl : List (Str × Addr)) (fp : List Addr) : Cok (BX X scope s H Ca cl fp) W0 T φ k (C.blk scope) where
  N := S.N
  nd := S.nd
  sc := by
    show relS scope X.env.scope = _
    rw [S.sc]
    rfl
  kd := hk
  F := S.F.to rfl rfl rfl rfl rfl
  rm := S.rm
  tk := takes0
  calm := S.calm
  fn := rfl
  po := .never
/-! ### names -/
theorem r_var (S : Cok X W T φ k C) {i : Nat} (h : C.vis i x = true) : Sim X W φ (mVar i) (.Name x pos) := by
  unfold Ctx.vis at h
  simp only [Bool.and_eq_true, Bool.or_eq_true, beq_iff_eq, Bool.not_eq_true'] at h
  obtain ⟨⟨⟨h1, h2⟩, h3⟩, h4⟩ := h
  refine sim_var (by rw [S.N]; exact h1) ?_ h3 h4
  unfold Vis
  rw [S.sc]
  rcases h2 with (h2 | h2) | h2
  · exact .inl h2
  · exact .inr (.inl h2)
  · exact .inr (.inr h2)
theorem r_con (S : Cok X W T φ k C) {v : PV} (hc : T.con x = some v) (h : C.gl x = true) : Sim X W φ (mC v) (.Name x pos) := by
  obtain ⟨g, hd, _⟩ := S.gl h
  obtain ⟨u, u', hm, r, rv, hb⟩ := S.F.con x v hc
  exact sim_const (pe_glob g hm r hd) (fun _ => rfl) rv hb
theorem r_ty (S : Cok X W T φ k C) {n : String} (hf : T.free x = true) (hv : bootBuiltins x = some (.type n)) (h : C.gl x = true) : Sim X W φ (mC (.ty n)) (.Name x pos) := by
  obtain ⟨g, hd, hn⟩ := S.gl h
  exact sim_const (pe_bltn (v := .ty n) g (S.F.free x hf) hv rfl hn hd) (fun _ => rfl) (fun _ _ => .ty n) (by rw [PV.bd])
theorem r_int {n : Int} {j : Nat} : Sim X W φ (mC (.int n)) (.Constant (.int n) j pos) := sim_const pe_int (fun _ => rfl) (fun _ _ => .int n) (by rw [PV.bd])
theorem r_bl {n : Bool} {j : Nat} : Sim X W φ (mC (.bl n)) (.Constant (.bool n) j pos) := sim_const pe_bl (fun _ => rfl) (fun _ _ => .bl n) (by rw [PV.bd])
theorem r_str {n : Str} {j : Nat} : Sim X W φ (mC (.str n)) (.Constant (.str n) j pos) := sim_const pe_str (fun _ => rfl) (fun _ _ => .str n) (by rw [PV.bd])
theorem r_non {j : Nat} : Sim X W φ (mC .non) (.Constant .none j pos) := sim_const pe_non (fun _ => rfl) (fun _ _ => .non) (by rw [PV.bd])
/-! ### calls -/
theorem r_call (S : Cok X W T φ k C) {dps : List PV} (hf : T.fn x = true) {j : Nat} (hd : T.dfl x j = some dps) (h : C.gl x = true) (ha : SimA X W φ ml (e :: es))
    (he : starEach (e :: es) X.env = (false, eval e X.env) :: starEach es X.env := by rfl) (hpl : (backTo pos (starEach es X.env)).any (·.1) = false := by rfl) : Sim X W φ (mCall x dps ml) (.Call (.Name x p) (e :: es) [] pos) :=
  sim_call S.F S.rk S.tk hf hd (S.gl h).1 (S.gl h).2.1 ha he hpl
theorem r_call0 (S : Cok X W T φ k C) {dps : List PV} (hf : T.fn x = true) (hd : T.dfl x 0 = some dps) (h : C.gl x = true) : Sim X W φ (mCall x dps mNil) (.Call (.Name x p) [] [] pos) := sim_call0 S.F S.rk S.tk hf hd (S.gl h).1 (S.gl h).2.1
theorem r_make (S : Cok X W T φ k C) {dps : List PV} (hf : T.mkr x = true) {j : Nat} (hd : T.dfl (qn x (Str.ofString "__init__")) j = some dps) (h : C.gl x = true) (ha : SimA X W φ ml (e :: es))
    (he : starEach (e :: es) X.env = (false, eval e X.env) :: starEach es X.env := by rfl) (hpl : (backTo pos (starEach es X.env)).any (·.1) = false := by rfl) : Sim X W φ (mMake x dps ml) (.Call (.Name x p) (e :: es) [] pos) :=
  sim_make S.F S.rm S.tk hf hd (S.gl h).1 (S.gl h).2.1 ha he hpl
theorem r_make0 (S : Cok X W T φ k C) {dps : List PV} (hf : T.mkr x = true) (hd : T.dfl (qn x (Str.ofString "__init__")) 1 = some dps) (h : C.gl x = true) : Sim X W φ (mMake x dps mNil) (.Call (.Name x p) [] [] pos) := sim_make0 S.F S.rm S.tk hf hd (S.gl h).1 (S.gl h).2.1
theorem r_attr (S : Cok X W T φ k C) {f : Str} (ho : Sim X W φ m o) (hdf : ∀ C, T.prop C f = true → T.dfl (qn C f) 1 = some []) (hab : attributeBase o f X.env (eval o X.env) = eval o X.env := by rfl) : Sim X W φ (mAttr T f m) (.Attribute o f pos) := sim_attr S.F S.rm ho hab hdf
theorem r_ix (S : Cok X W T φ k C) (ha : Sim X W φ ma a) (hb : Sim X W φ mb b) (hs : PlainIx b := by intro _ _; rfl) : Sim X W φ (mBin vIx ma mb) (.Subscript a b pos) := sim_ix S.un1 ha hb hs
theorem r_in (S : Cok X W T φ k C) (ha : Sim X W φ ma a) (hb : Sim X W φ mb b) (hm : behindInMarks .In b = false := by rfl) : Sim X W φ (mBin vIn ma mb) (.Compare a [.In] [b] pos) := sim_cmp (opr_in S.un) vr_in ha hb hm
theorem r_notIn (S : Cok X W T φ k C) (ha : Sim X W φ ma a) (hb : Sim X W φ mb b) (hm : behindInMarks .NotIn b = false := by rfl) : Sim X W φ (mBin vNotIn ma mb) (.Compare a [.NotIn] [b] pos) := sim_cmp (opr_notIn S.un) vr_notIn ha hb hm
/-- a built-in function, a built-in type -/
theorem r_blt (S : Cok X W T φ k C) {id : String} {f : List PV → Sg → R PV} {r : List V → Hp → VK → Prop} (hc : CallR X (.builtin id) r) (hf : VRL X.K X.mg f r) (hv : bootBuiltins x = some (.builtin id)) (hfr : T.free x = true) (h : C.gl x = true) (ha : SimA X W φ ml (e :: es))
    (he : starEach (e :: es) X.env = (false, eval e X.env) :: starEach es X.env := by rfl) (hpl : (backTo pos (starEach es X.env)).any (·.1) = false := by rfl) : Sim X W φ (mB f ml) (.Call (.Name x p) (e :: es) [] pos) :=
  sim_callB hc hf (S.gl h).1 (S.F.free x hfr) hv ha (S.gl h).2.2 (S.gl h).2.1 he hpl
theorem r_btt (S : Cok X W T φ k C) {id : String} {f : List PV → Sg → R PV} {r : List V → Hp → VK → Prop} (hc : CallR X (.type id) r) (hf : VRL X.K X.mg f r) (hv : bootBuiltins x = some (.type id)) (hfr : T.free x = true) (h : C.gl x = true) (ha : SimA X W φ ml (e :: es))
    (he : starEach (e :: es) X.env = (false, eval e X.env) :: starEach es X.env := by rfl) (hpl : (backTo pos (starEach es X.env)).any (·.1) = false := by rfl) : Sim X W φ (mB f ml) (.Call (.Name x p) (e :: es) [] pos) :=
  sim_callTy hc hf (S.gl h).1 (S.F.free x hfr) hv ha (S.gl h).2.2 (S.gl h).2.1 he hpl
end
theorem boot_len' : bootBuiltins "len" = some (.builtin "len") := by decide +kernel
theorem boot_abs' : bootBuiltins "abs" = some (.builtin "abs") := by decide +kernel
theorem boot_max' : bootBuiltins "max" = some (.builtin "max") := by decide +kernel
theorem boot_min' : bootBuiltins "min" = some (.builtin "min") := by decide +kernel
theorem boot_all' : bootBuiltins "all" = some (.builtin "all") := by decide +kernel
theorem boot_any' : bootBuiltins "any" = some (.builtin "any") := by decide +kernel
theorem boot_sum' : bootBuiltins "sum" = some (.builtin "sum") := by decide +kernel
theorem boot_sorted' : bootBuiltins "sorted" = some (.builtin "sorted") := by decide +kernel
theorem boot_repr' : bootBuiltins "repr" = some (.builtin "repr") := by decide +kernel
theorem boot_isinstance' : bootBuiltins "isinstance" = some (.builtin "isinstance") := by decide +kernel
theorem boot_int' : bootBuiltins "int" = some (.type "int") := by decide +kernel
theorem boot_bool' : bootBuiltins "bool" = some (.type "bool") := by decide +kernel
theorem boot_str' : bootBuiltins "str" = some (.type "str") := by decide +kernel
theorem boot_list' : bootBuiltins "list" = some (.type "list") := by decide +kernel
theorem boot_tuple' : bootBuiltins "tuple" = some (.type "tuple") := by decide +kernel
theorem boot_dict' : bootBuiltins "dict" = some (.type "dict") := by decide +kernel
end Bi

end
section
set_option Elab.async false
set_option linter.all false
set_option autoImplicit false
set_option maxRecDepth 100000
set_option maxHeartbeats 1000000
/-! Bi26: the same of statements, walks, comprehensions. -/
namespace Bi
open PySem L2 PySem.Spec PyProof.Rows
/-- a comprehension's names, checked -/
def blkB (N : List Str) (sc scope : Scope) (own : List (Str × Nat)) : Bool :=
  scope.kind == .function && scope.names.all (fun y => scope.names.lookup y.1 == some y.2) && own.all (fun p => N[p.2]? == some p.1) &&
  scope.names.all (fun y => !(y.2 == .free) || (sc.names.lookup y.1 == some .cell || sc.names.lookup y.1 == some .free)) &&
  scope.names.all (fun y => !(y.2 == .local || y.2 == .cell) || ((own.map (·.1)).contains y.1 || !(N.contains y.1)))
theorem blk_ok {N : List Str} {sc scope : Scope} {own : List (Str × Nat)} (h : blkB N sc scope own = true) : BlkOk N sc scope own := by
  unfold blkB at h
  simp only [Bool.and_eq_true, List.all_eq_true, beq_iff_eq, Bool.or_eq_true, Bool.not_eq_true', beq_eq_false_iff_ne] at h
  obtain ⟨⟨⟨⟨h1, h2⟩, h3⟩, h4⟩, h5⟩ := h
  refine ⟨h1, fun y hy => h2 y hy, fun p hp => h3 p hp, fun y hy e => ?_, fun y hy e => ?_⟩
  · rcases h4 y hy with z | z
    · exact absurd e z
    · exact z
  · rcases h5 y hy with z | z
    · rcases e with e | e
      · rw [e] at z; simp at z
      · rw [e] at z; simp at z
    · rcases z with z | z
      · exact .inl (List.contains_iff_mem.mp z)
      · exact .inr fun q => by
          have := List.contains_iff_mem.mpr q
          rw [this] at z; cases z
def fnB (N P : List Str) (sc : Scope) : Bool :=
  sc.kind == .function && !sc.isCoroutine && !sc.isGenerator && decide N.Nodup && (N.take P.length == P) && P.all (fun x => sc.names.lookup x == some .local || sc.names.lookup x == some .cell) && sc.names.all (fun y => !(y.2 == .free))
theorem fn_ok {N P : List Str} {sc : Scope} (h : fnB N P sc = true) : FnScope N P sc := by
  unfold fnB at h
  simp only [Bool.and_eq_true, List.all_eq_true, beq_iff_eq, Bool.or_eq_true, Bool.not_eq_true', decide_eq_true_eq, beq_eq_false_iff_ne] at h
  obtain ⟨⟨⟨⟨⟨⟨h1, h2⟩, h3⟩, h4⟩, h5⟩, h6⟩, h7⟩ := h
  exact ⟨h1, h2, h3, h4, h5, h6, h7⟩
theorem sst_env {ts : List Expr} {v : Expr} {env env' : Env} (h : env.scope = env'.scope) : swappedStores ts v env = swappedStores ts v env' := by
  unfold swappedStores Env.kindOf Env.blockKind
  rw [h]
theorem swp_env {v : Expr} {t : Option Expr} {n : Nat} {env env' : Env} (h : env.scope = env'.scope) : swapsWith v t n env = swapsWith v t n env' := by
  unfold swapsWith Env.kindOf Env.blockKind
  rw [h]
section
variable {X : Cx} {W : WX} {φ : Phi} {T : Tab} {k : Nat} {C : Ctx} {m mt me mk ma mb mc mo mi : ME} {ml : ML} {e a b c o i tg iter elt kx vx : Expr} {es ifs : List Expr} {pos p p1 apos cpos : Pos} {x y z : Str} {scope : Scope} {own : List (Str × Nat)} {body : List Stmt}
theorem r_set (S : Cok X W T φ k C) {i : Nat} (h : C.st i x = true) (he : Sim X W φ m e) (hs : swapsWith e (some (.Name x p1)) pos.line X.env = pure false := by rfl) : SimS X W φ (mSet i m) (.Assign [.Name x p1] e pos) :=
  sims_set S.nd (S.st h).1 (S.st h).2.1 he hs (S.st h).2.2
/-- where a comprehension's value is not swapped -/
theorem r_setC (S : Cok X W T φ k C) {i : Nat} (h : C.st i x = true) (he : Sim X W φ m e) (hs : swapsWith e (some (.Name x p1)) pos.line C.env = pure false) : SimS X W φ (mSet i m) (.Assign [.Name x p1] e pos) :=
  r_set S h he (by rw [swp_env (env' := C.env) S.sc]; exact hs)
theorem r_par (S : Cok X W T φ k C) {i j : Nat} {px py pt : Pos} {kt k2 : Nat} {pt2 : Pos} (hi : C.N[i]? = some x) (hj : C.N[j]? = some y) (hij : i ≠ j) (hx : C.sc.names.lookup x = some .local) (hy : C.sc.names.lookup y = some .local) (ha : SimA X W φ ml [a, b])
    (hw : swappedStores [.Tuple [.Name x px, .Name y py] kt pt] (.Tuple [a, b] k2 pt2) C.env = pure (some [x, y])) : SimS X W φ (mPar i j ml) (.Assign [.Tuple [.Name x px, .Name y py] kt pt] (.Tuple [a, b] k2 pt2) pos) :=
  sims_par S.calm S.nd (by rw [S.N]; exact hi) (by rw [S.N]; exact hj) hij (by rw [S.sc]; exact hx) (by rw [S.sc]; exact hy) ha (by rw [sst_env (env' := C.env) S.sc]; exact hw) rfl
theorem r_par3 (S : Cok X W T φ k C) {i j l : Nat} {px py pz pt : Pos} {kt k2 : Nat} {pt2 : Pos} (hi : C.N[i]? = some x) (hj : C.N[j]? = some y) (hl : C.N[l]? = some z) (hij : i ≠ j) (hil : i ≠ l) (hjl : j ≠ l) (hx : C.sc.names.lookup x = some .local) (hy : C.sc.names.lookup y = some .local) (hz : C.sc.names.lookup z = some .local) (ha : SimA X W φ ml [a, b, c])
    (hw : swappedStores [.Tuple [.Name x px, .Name y py, .Name z pz] kt pt] (.Tuple [a, b, c] k2 pt2) C.env = pure (some [x, y, z])) : SimS X W φ (mPar3 i j l ml) (.Assign [.Tuple [.Name x px, .Name y py, .Name z pz] kt pt] (.Tuple [a, b, c] k2 pt2) pos) :=
  sims_par3 S.calm S.nd (by rw [S.N]; exact hi) (by rw [S.N]; exact hj) (by rw [S.N]; exact hl) hij hil hjl (by rw [S.sc]; exact hx) (by rw [S.sc]; exact hy) (by rw [S.sc]; exact hz) ha (by rw [sst_env (env' := C.env) S.sc]; exact hw) rfl
/-! ### targets -/
theorem g_name (S : Cok X W T φ k C) {i : Nat} (h : C.st i x = true) : SimG X (gName i) (gN i) [i] (.Name x p1) := simg_name S.nd (S.st h).1 (S.st h).2.1 (S.st h).2.2
theorem g_tup (S : Cok X W T φ k C) {gs : TGs} {fs : List PV → Sl → Option Sl} {is : List Nat} {n kk : Nat} (h : SimGs X gs fs is es) (hn : (assignEach es X.env).length = n := by rfl) (hst : (assignEach es X.env).findIdx? (·.1) = none := by rfl) : SimG X (gTup X.K n gs) (gT n fs) is (.Tuple es kk pos) := simg_tup S.calm h hn hst
theorem g_cons {g : TG} {gs : TGs} {f : PV → Sl → Option Sl} {fs : List PV → Sl → Option Sl} {is js : List Nat} (h1 : SimG X g f is e) (h2 : SimGs X gs fs js es) (hs : (assignEach (e :: es) X.env).map (·.2) = assign e X.env :: (assignEach es X.env).map (·.2) := by rfl) : SimGs X (gCons g gs) (gsC f fs) (is ++ js) (e :: es) := simgs_cons h1 h2 hs
theorem r_asg (S : Cok X W T φ k C) {g : TG} {f : PV → Sl → Option Sl} {is : List Nat} (he : Sim X W φ m e) (hg : SimG X g f is tg) (hw : swappedStores [tg] e C.env = pure none) (hs : swapsWithSole [tg] e pos.line X.env = pure false := by rfl) (h1 : (assignEach [tg] X.env).map (·.2) = [assign tg X.env] := by rfl) : SimS X W φ (mAsg m f) (.Assign [tg] e pos) :=
  sims_asg he hg hs (by rw [sst_env (env' := C.env) S.sc]; exact hw) h1
theorem r_asgL (S : Cok X W T φ k C) {gs : TGs} {fs : List PV → Sl → Option Sl} {is : List Nat} {n kk : Nat} (he : Sim X W φ m e) (hg : SimGs X gs fs is es) (hw : swappedStores [.Tuple es kk p1] e C.env = pure none) (hn : (assignEach es X.env).length = n := by rfl) (hst : (assignEach es X.env).findIdx? (·.1) = none := by rfl)
    (hs : swapsWithSole [.Tuple es kk p1] e pos.line X.env = pure false := by rfl) (h1 : (assignEach [.Tuple es kk p1] X.env).map (·.2) = [assign (.Tuple es kk p1) X.env] := by rfl) : SimS X W φ (mAsgL m n fs) (.Assign [.Tuple es kk p1] e pos) :=
  sims_asgL S.calm he hg hn hst hs (by rw [sst_env (env' := C.env) S.sc]; exact hw) h1
theorem r_setIx (S : Cok X W T φ k C) (he : Sim X W φ m e) (ho : Sim X W φ mo o) (hi : Sim X W φ mi i) (hw : swappedStores [.Subscript o i p1] e C.env = pure none) (hs : swapsWithSole [.Subscript o i p1] e pos.line X.env = pure false := by rfl) (h1 : (assignEach [.Subscript o i p1] X.env).map (·.2) = [assign (.Subscript o i p1) X.env] := by rfl)
    (hg : PG X (.Subscript o i p1) (gSub (tE X.K X.mg W φ mo) (tE X.K X.mg W φ mi) (fun o i v H Q => rSetL o i v H Q ∨ ∃ a H', o = .ref a ∧ DPut H a i v H' ∧ Q H'))) : SimS X W φ (mSetIx m mo mi) (.Assign [.Subscript o i p1] e pos) :=
  sims_setIx S.un1 he ho hi hs (by rw [sst_env (env' := C.env) S.sc]; exact hw) h1 hg
theorem r_setAt (S : Cok X W T φ k C) {f : Str} (he : Sim X W φ m e) (ho : Sim X W φ mo o) (hs : swapsWith e (some (.Attribute o f p1)) pos.line X.env = pure false := by rfl) : SimS X W φ (mSetAt T f m mo) (.Assign [.Attribute o f p1] e pos) := sims_setAt S.F he ho hs
theorem r_expr (he : Sim X W φ m e) (hs : swapsWith e none pos.line X.env = pure false := by rfl) : SimS X W φ (mExp m) (.Expr e pos) := sims_expr he hs
theorem r_while (S : Cok X W T φ k C) {m2 : MS} (hc : Sim X W φ mc c) (hb : SimSs X W φ m2 body) : SimS X W φ (mWh mc m2) (.While c body [] pos) := sims_while S.po hc hb
theorem r_for (S : Cok X W T φ k C) {mi : MI} {g : TG} {f : PV → Sl → Option Sl} {is : List Nat} {b : MS} (hi : SimI X W φ mi tg iter) (hg : SimG X g f is tg) (hb : SimSs X W φ b body) (hs : ∀ x, foldedSetIterable iter X.env x = pure x := by intro _; rfl) : SimS X W φ (mFor mi f b) (.For tg iter body [] pos) := sims_for S.po S.calm hi hg hb hs
/-! ### sources -/
theorem i_vals (h : Sim X W φ m e) (hbase : attributeBase e "values" X.env (eval e X.env) = eval e X.env := by rfl) (hline : (apos.endLine == cpos.line) = true := by rfl) : SimI X W φ (mI (vDicI valsP) m) tg (.Call (.Attribute e "values" apos) [] [] cpos) := sim_valsI h hbase hline
theorem i_items {elts : List Expr} {kk : Nat} {tpos : Pos} (h : Sim X W φ m e) (hbase : attributeBase e "items" X.env (eval e X.env) = eval e X.env := by rfl) (hline : (apos.endLine == cpos.line) = true := by rfl) : SimI X W φ (mI (vDicI itemsP) m) (.Tuple elts kk tpos) (.Call (.Attribute e "items" apos) [] [] cpos) := sim_itemsI h hbase hline
theorem i_rng1 (S : Cok X W T φ k C) (hf : T.free "range" = true) (hg : C.gl "range" = true) (ha : SimA X W φ ml [a]) (hs : starEach [a] X.env = [(false, eval a X.env)] := by rfl) : SimI X W φ (mRng1 ml) tg (.Call (.Name "range" p) [a] [] pos) := sim_rng1 (S.gl hg).1 (S.F.free _ hf) ha hs
theorem i_rng2 (S : Cok X W T φ k C) (hf : T.free "range" = true) (hg : C.gl "range" = true) (ha : SimA X W φ ml [a, b]) (hs : starEach [a, b] X.env = [(false, eval a X.env), (false, eval b X.env)] := by rfl) (hs2 : starEach [b] X.env = [(false, eval b X.env)] := by rfl) : SimI X W φ (mRng2 ml) tg (.Call (.Name "range" p) [a, b] [] pos) := sim_rng2 (S.gl hg).1 (S.F.free _ hf) ha hs hs2
theorem i_enum1 (S : Cok X W T φ k C) {elts : List Expr} {kk : Nat} {tpos : Pos} (hf : T.free "enumerate" = true) (hg : C.gl "enumerate" = true) (ha : SimA X W φ ml [a]) (hs : starEach [a] X.env = [(false, eval a X.env)] := by rfl) : SimI X W φ (mIL vEnum1 ml) (.Tuple elts kk tpos) (.Call (.Name "enumerate" p) [a] [] pos) := sim_enum1 (S.gl hg).1 (S.F.free _ hf) ha hs
theorem i_enum2 (S : Cok X W T φ k C) {elts : List Expr} {kk : Nat} {tpos : Pos} (hf : T.free "enumerate" = true) (hg : C.gl "enumerate" = true) (ha : SimA X W φ ml [a, b]) (hs : starEach [a, b] X.env = (false, eval a X.env) :: starEach [b] X.env := by rfl) (hpl : (backTo pos (starEach [b] X.env)).any (·.1) = false := by rfl) : SimI X W φ (mIL vEnum2 ml) (.Tuple elts kk tpos) (.Call (.Name "enumerate" p) [a, b] [] pos) := sim_enum2 (S.gl hg).1 (S.F.free _ hf) ha hs hpl
theorem i_zip (S : Cok X W T φ k C) {elts : List Expr} {kk : Nat} {tpos : Pos} (hf : T.free "zip" = true) (hg : C.gl "zip" = true) (ha : SimA X W φ ml [a, b]) (hs : starEach [a, b] X.env = (false, eval a X.env) :: starEach [b] X.env := by rfl) (hpl : (backTo pos (starEach [b] X.env)).any (·.1) = false := by rfl) : SimI X W φ (mIL vZip ml) (.Tuple elts kk tpos) (.Call (.Name "zip" p) [a, b] [] pos) := sim_zip (S.gl hg).1 (S.F.free _ hf) ha hs hpl
/-! ### comprehensions -/
theorem r_lc (S : Cok X W T φ k C) {mi : MI} {g : TG} {f : PV → Sl → Option Sl} {is : List Nat} (own : List (Str × Nat)) (ok : blkB C.N C.sc scope own = true) (his : is.all (fun i => (own.map (·.2)).contains i) = true) (hi : SimI X W φ mi tg iter)
    (hb : ∀ (s : Shared) (H : Hp) (Ca : Addr) (cl : List (Str × Addr)) (fp : List Addr), Cok (BX X scope s H Ca cl fp) W0 T φ k (C.blk scope) → SimG (BX X scope s H Ca cl fp) g f is tg ∧ SimTs (BX X scope s H Ca cl fp) W0 φ mt ifs ∧ Sim (BX X scope s H Ca cl fp) W0 φ me elt)
    (hs : ∀ x, foldedSetIterable iter X.env x = pure x := by intro _; rfl) : Sim X W φ (mLc mi (own.map (·.2)) f mt me) (.ListComp elt [⟨tg, iter, ifs, 0⟩] scope pos) := by
  have ok2 := blk_ok ok
  have h := fun s H Ca cl fp => hb s H Ca cl fp (S.blk ok2.kind s H Ca cl fp)
  exact sim_lc S.calm S.nd hi (by rw [S.N, S.sc]; exact ok2) ⟨fun s H Ca cl fp => (h s H Ca cl fp).1, fun s H Ca cl fp => (h s H Ca cl fp).2.1⟩ (fun i hi => List.contains_iff_mem.mp (List.all_eq_true.mp his i hi)) (fun s H Ca cl fp => (h s H Ca cl fp).2.2) hs
theorem r_setLc (S : Cok X W T φ k C) {mi : MI} {g : TG} {f : PV → Sl → Option Sl} {is : List Nat} {iy : Nat} {py spos : Pos} (own : List (Str × Nat)) (hy : C.N[iy]? = some y) (hyl : C.sc.names.lookup y = some .local) (hsw : swapsWith (.ListComp elt [⟨tg, iter, ifs, 0⟩] scope pos) (some (.Name y py)) spos.line C.env = pure true) (ok : blkB C.N C.sc scope own = true) (his : is.all (fun i => (own.map (·.2)).contains i) = true) (hi : SimI X W φ mi tg iter)
    (hb : ∀ (s : Shared) (H : Hp) (Ca : Addr) (cl : List (Str × Addr)) (fp : List Addr), Cok (BX X scope s H Ca cl fp) W0 T φ k (C.blk scope) → SimG (BX X scope s H Ca cl fp) g f is tg ∧ SimTs (BX X scope s H Ca cl fp) W0 φ mt ifs ∧ Sim (BX X scope s H Ca cl fp) W0 φ me elt)
    (hs : ∀ x, foldedSetIterable iter X.env x = pure x := by intro _; rfl) : SimS X W φ (mSet iy (mLc mi (own.map (·.2)) f mt me)) (.Assign [.Name y py] (.ListComp elt [⟨tg, iter, ifs, 0⟩] scope pos) spos) := by
  have ok2 := blk_ok ok
  have h := fun s H Ca cl fp => hb s H Ca cl fp (S.blk ok2.kind s H Ca cl fp)
  exact sims_setLc S.calm S.nd (by rw [S.N]; exact hy) (by rw [S.sc]; exact hyl) (by rw [swp_env (env' := C.env) S.sc]; exact hsw) hi (by rw [S.N, S.sc]; exact ok2) ⟨fun s H Ca cl fp => (h s H Ca cl fp).1, fun s H Ca cl fp => (h s H Ca cl fp).2.1⟩ (fun i hi => List.contains_iff_mem.mp (List.all_eq_true.mp his i hi)) (fun s H Ca cl fp => (h s H Ca cl fp).2.2) hs
theorem r_dc (S : Cok X W T φ k C) {mi : MI} {g : TG} {f : PV → Sl → Option Sl} {is : List Nat} (own : List (Str × Nat)) (ok : blkB C.N C.sc scope own = true) (his : is.all (fun i => (own.map (·.2)).contains i) = true) (hi : SimI X W φ mi tg iter)
    (hb : ∀ (s : Shared) (H : Hp) (Ca : Addr) (cl : List (Str × Addr)) (fp : List Addr), Cok (BX X scope s H Ca cl fp) W0 T φ k (C.blk scope) → SimG (BX X scope s H Ca cl fp) g f is tg ∧ SimTs (BX X scope s H Ca cl fp) W0 φ mt ifs ∧ Sim (BX X scope s H Ca cl fp) W0 φ mk kx ∧ Sim (BX X scope s H Ca cl fp) W0 φ me vx)
    (hs : ∀ x, foldedSetIterable iter X.env x = pure x := by intro _; rfl) : Sim X W φ (mDc mi (own.map (·.2)) f mt mk me) (.DictComp kx vx [⟨tg, iter, ifs, 0⟩] scope pos) := by
  have ok2 := blk_ok ok
  have h := fun s H Ca cl fp => hb s H Ca cl fp (S.blk ok2.kind s H Ca cl fp)
  exact sim_dc S.calm S.nd hi (by rw [S.N, S.sc]; exact ok2) ⟨fun s H Ca cl fp => (h s H Ca cl fp).1, fun s H Ca cl fp => (h s H Ca cl fp).2.1⟩ (fun i hi => List.contains_iff_mem.mp (List.all_eq_true.mp his i hi)) (fun s H Ca cl fp => (h s H Ca cl fp).2.2.1) (fun s H Ca cl fp => (h s H Ca cl fp).2.2.2) hs
end
end Bi

end
section
set_option Elab.async false
set_option linter.all false
set_option autoImplicit false
set_option maxRecDepth 100000
set_option maxHeartbeats 1000000
/-! Bi27: the law's call, of a def that keeps its promise where no repr is under way. -/
namespace Bi
open PySem L2 PySem.Spec PyProof.Rows
section
variable {P : Program} {w : World} {K : PySem.W.Frag} {mg mb : Str → Option Value} {k : Nat} {fa a : Addr} {fd : FuncData} {x : Str} {sp : Sp} {s : Shared} {vs : List Value} {ns : List Int}
theorem no_err {H : Hp} {e : Value} {s' : Shared} (h : L2.CX P w [] H s (fun _ _ _ => False) e s') : False := by
  obtain ⟨_, _, _, _, _, _, _, _, _, _, _, _, z⟩ := h
  exact z
/-- from an abstract heap that tracks at most the script -/
theorem law_core {H : Hp} (KX : K.In s.heap) (hns : s.heap.Ns mainGlobals mg) (hb : s.heap.Ns builtinsNs mb) (hbb : ∀ x : Str, x ≠ "__name__" → mb x = bootBuiltins x) (hlim : s.heap.NoLimit) (hg : s.gens = #[])
    (ha : s.heap.get? a = some { cls := .type "list", data := .seq vs.toArray }) (hr : RG k callerA) (F : ∀ base : Heap, K.In base → base.Ns mainGlobals mg → FnG P w K mg base k fa fd [x] sp) (hbind : ∀ (s : Shared) (u : Value), BindsTo s fd ⟨[u], []⟩ [(x, u)])
    (hO : Only H) (hok : HOk P w H s.heap) (hA : ∀ b, H b ≠ none → b = a) (hK : H a ≠ none → K.lookup a = none) (hsp : sp [.ref a] H (fun v _ => v = .bl true) fun _ _ _ => False) :
    codeAny (model P w) callerA (.call (.ref fa) ⟨[.ref a], []⟩) (fun r s' => r = .ok (.ret (.bool true)) ∧ OldK s.heap s'.heap ∧ s'.os = s.os ∧ AllBare s'.gens) s := by
  -- what is not the script is not tracked
  have nt : ∀ {b : Addr} {o : Obj}, s.heap.get? b = some o → (∀ its n, o.data ≠ .seq its n) → H b = none := fun {b o} e d => by
    rcases Option.eq_none_or_eq_some (H b) with q | ⟨u, q⟩
    · exact q
    · have eb := hA b (by rw [q]; exact Option.some_ne_none u)
      rw [eb, ha] at e
      cases e
      exact absurd rfl (d _ _)
  have nsB : ∀ {b : Addr} {m : Str → Option Value}, s.heap.Ns b m → (hidT s.heap H).Ns b m := fun h => by
    obtain ⟨o, es, ep, e, d, r⟩ := h
    exact ⟨o, es, ep, hidT_get e (nt e fun its n z => by rw [d] at z; cases z), d, r⟩
  have kB : K.In (hidT s.heap H) := fun b o e => by
    refine hidT_get (KX b o e) ?_
    rcases Option.eq_none_or_eq_some (H b) with q | ⟨u, q⟩
    · exact q
    · have eb := hA b (by rw [q]; exact Option.some_ne_none u)
      subst eb
      rw [hK (by rw [q]; exact Option.some_ne_none u)] at e
      cases e
  have md : Mod K mg (hidT s.heap H) := ⟨kB, nsB hns, ⟨mb, nsB hb, hbb⟩, by obtain ⟨mc, h1, h2⟩ := hlim; exact ⟨mc, nsB h1, h2⟩⟩
  have e0 : Env0 P w K mg (hidT s.heap H) callerA [] s H := ⟨rfl, md, fun b o e => of_hidT e, Nat.le_of_eq (hidT_size _ _), trivial, fun b hb => (nomatch hb), hok, .of_eq hg⟩
  refine codeAny_mono ((F _ kB (nsB hns)).run callerA [] s H ⟨[.ref a], []⟩ [.ref a] [.ref a] _ _ hr e0 (hbind s (.ref a)) (.cons rfl .nil) hsp) fun r s' h => ?_
  match r, h with
  | .error e, h => exact (no_err h).elim
  | .ok .next, h => exact h.elim
  | .ok .brk, h => exact h.elim
  | .ok .cont, h => exact h.elim
  | .ok (.ret u), ⟨v, H', os, bare, un, hok', rv, q⟩ =>
    have q : v = .bl true := q
    subst q
    have eu : u = Value.bool true := rv
    subst eu
    refine ⟨rfl, OldK.of_keep fun b o e => ?_, os, bare⟩
    rcases hO b with z | ⟨ob, xs, z⟩
    · exact un.keep b o e z (fun z => nomatch z) (fun z => nomatch z)
    · have e1 := (hok b _ z).1
      have e2 := (hok' b _ (un.frzs b ob _ z)).1
      rw [e1] at e
      cases e
      exact e2
/-- the law's call -/
theorem law_callG (KX : K.In s.heap) (hns : s.heap.Ns mainGlobals mg) (hb : s.heap.Ns builtinsNs mb) (hbb : ∀ x : Str, x ≠ "__name__" → mb x = bootBuiltins x) (hlim : s.heap.NoLimit) (hg : s.gens = #[])
    (ha : s.heap.get? a = some { cls := .type "list", data := .seq vs.toArray }) (hi : IntsAre vs ns) (hl : ns.length ≤ sizeLine) (hr : RG k callerA) (F : ∀ base : Heap, K.In base → base.Ns mainGlobals mg → FnG P w K mg base k fa fd [x] sp) (hbind : ∀ (s : Shared) (u : Value), BindsTo s fd ⟨[u], []⟩ [(x, u)])
    (hsp : ∀ H : Hp, Only H → SqF K H a (ns.map V.int) → sp [.ref a] H (fun v _ => v = .bl true) fun _ _ _ => False) :
    codeAny (model P w) callerA (.call (.ref fa) ⟨[.ref a], []⟩) (fun r s' => r = .ok (.ret (.bool true)) ∧ OldK s.heap s'.heap ∧ s'.os = s.os ∧ AllBare s'.gens) s := by
  have rv := vals_ints hi
  have hv : vs.length ≤ sizeLine := by
    rw [hi.length]
    exact hl
  rcases Option.eq_none_or_eq_some (K.lookup a) with hk | ⟨o, hk⟩
  · -- the script is tracked, as a thing that is only read
    refine law_core (H := fun b => if b = a then some (.frz { cls := .type "list", data := .seq vs.toArray } (.lst (ns.map V.int))) else none) KX hns hb hbb hlim hg ha hr F hbind (fun b => ?_) (fun b u z => ?_) (fun b z => ?_) (fun _ => hk) (hsp _ (fun b => ?_) (.inl ⟨_, if_pos rfl⟩))
    · by_cases e : b = a
      · exact .inr ⟨_, _, if_pos e⟩
      · exact .inl (if_neg e)
    · have z : (if b = a then some (HO.frz { cls := .type "list", data := .seq vs.toArray } (.lst (ns.map V.int))) else none) = some u := z
      by_cases e : b = a
      · rw [if_pos e] at z
        cases z
        rw [e]
        exact ⟨ha, by rw [List.length_map]; exact hl, vs, _, rv, ha⟩
      · rw [if_neg e] at z
        cases z
    · by_cases e : b = a
      · exact e
      · exact absurd (if_neg e) z
    · by_cases e : b = a
      · exact .inr ⟨_, _, if_pos e⟩
      · exact .inl (if_neg e)
  · -- the script is a thing of the written part
    have e := KX a o hk
    rw [ha] at e
    cases e
    exact law_core (H := fun _ => none) KX hns hb hbb hlim hg ha hr F hbind (fun _ => .inl rfl) (fun b u z => nomatch (show (none : Option HO) = some u from z)) (fun b z => absurd rfl z) (fun z => absurd rfl z)
      (hsp _ (fun _ => .inl rfl) (.inr ⟨_, vs.toArray, _, hk, rfl, rfl, rfl, by simpa using hv, by simpa using rv⟩))
end
/-- the law, by facts of its head -/
theorem walkG {l : PySem.W.OpenLaw} {n k : Nat} {q : Program} {loose : List Str} {XP : (Str → Option Value) → Heap → Prop} {YP : World → Heap → Prop} {d : DefRec} {x : Str}
    (hn : l.most = some n) (hn2 : n ≤ sizeLine) (hdf : d.params.defaults = []) (hr : RG k callerA)
    (F : ∀ (w : World) (mg : Str → Option Value) (fa : Addr) (h : Heap), YP w h → h.Ns mainGlobals mg → mg d.name = some (.ref fa) →
      ∃ (K : PySem.W.Frag) (fd : FuncData) (sp : Sp), K.In h ∧ (∀ (s : Shared) (u : Value), BindsTo s fd ⟨[u], []⟩ [(x, u)]) ∧
        (∀ (H : Hp) (a : Addr) (ns : List Int), ns.length ≤ n → Only H → SqF K H a (ns.map V.int) → sp [.ref a] H (fun v _ => v = .bl true) fun _ _ _ => False) ∧
        ∀ base : Heap, K.In base → base.Ns mainGlobals mg → FnG l.prog w K mg base k fa fd [x] sp) :
    PySem.W.WalkO q loose XP YP l.row.toRowW d [] (fun f vs => PySem.call f vs) := by
  refine Att.attach_call hn hdf fun w s₀ s₁ mg mb fa o pm cd doc a vs ns G Y ho hd hcd hmg hobj hints hlen hg => ?_
  obtain ⟨K, fd, sp, KX, hb, hsp, hF⟩ := F w mg fa _ Y G.T.g hmg
  exact law_callG KX G.T.g G.T.b G.T.builtins G.T.nolimit hg hobj hints (Nat.le_trans hlen hn2) hr hF hb fun H hO hS => hsp H a ns hlen hO hS
theorem room_caller : RG 60 callerA := ⟨⟨rfl, by decide, by decide⟩, rfl⟩
end Bi

end
section
set_option Elab.async false
set_option linter.all false
set_option autoImplicit false
set_option maxRecDepth 100000
set_option maxHeartbeats 1000000
/-! Bi28: built-ins and methods by name. -/
namespace Bi
open PySem L2 PySem.Spec PyProof.Rows
section
variable {X : Cx} {W : WX} {φ : Phi} {T : Tab} {k : Nat} {C : Ctx} {m ma mb mc mo mi : ME} {ml : ML} {e a b c o i f : Expr} {es : List Expr} {pos p p1 apos cpos : Pos} {x y z : Str}
theorem r_eq (S : Cok X W T φ k C) (ha : Sim X W φ ma a) (hb : Sim X W φ mb b) (hm : behindInMarks .Eq b = false := by rfl) : Sim X W φ (mBin vEq ma mb) (.Compare a [.Eq] [b] pos) := sim_cmp (op_eqD (by have := S.un; omega)) vr_eq ha hb hm
theorem r_ne (S : Cok X W T φ k C) (ha : Sim X W φ ma a) (hb : Sim X W φ mb b) (hm : behindInMarks .NotEq b = false := by rfl) : Sim X W φ (mBin vNe ma mb) (.Compare a [.NotEq] [b] pos) := sim_cmp (op_neD (by have := S.un; omega)) vr_ne ha hb hm
theorem b_len (S : Cok X W T φ k C) (hd : ∀ C, T.meth C (Str.ofString "__len__") = true → T.dfl (qn C (Str.ofString "__len__")) 1 = some []) (hfr : T.free "len" = true) (h : C.gl "len" = true) (ha : SimA X W φ ml (e :: es)) (he : starEach (e :: es) X.env = (false, eval e X.env) :: starEach es X.env := by rfl) (hpl : (backTo pos (starEach es X.env)).any (·.1) = false := by rfl) : Sim X W φ (mB (vLen T φ) ml) (.Call (.Name "len" p) (e :: es) [] pos) := r_blt S (call_lenA S.rm) (vr_len S.F hd) boot_len' hfr h ha he hpl
theorem b_abs (S : Cok X W T φ k C) (hfr : T.free "abs" = true) (h : C.gl "abs" = true) (ha : SimA X W φ ml (e :: es)) (he : starEach (e :: es) X.env = (false, eval e X.env) :: starEach es X.env := by rfl) (hpl : (backTo pos (starEach es X.env)).any (·.1) = false := by rfl) : Sim X W φ (mB vAbs ml) (.Call (.Name "abs" p) (e :: es) [] pos) := r_blt S call_abs vr_abs boot_abs' hfr h ha he hpl
theorem b_max (S : Cok X W T φ k C) (hfr : T.free "max" = true) (h : C.gl "max" = true) (ha : SimA X W φ ml (e :: es)) (he : starEach (e :: es) X.env = (false, eval e X.env) :: starEach es X.env := by rfl) (hpl : (backTo pos (starEach es X.env)).any (·.1) = false := by rfl) : Sim X W φ (mB vMax ml) (.Call (.Name "max" p) (e :: es) [] pos) := r_blt S (callr_max S.calm) vr_max boot_max' hfr h ha he hpl
theorem b_min (S : Cok X W T φ k C) (hfr : T.free "min" = true) (h : C.gl "min" = true) (ha : SimA X W φ ml (e :: es)) (he : starEach (e :: es) X.env = (false, eval e X.env) :: starEach es X.env := by rfl) (hpl : (backTo pos (starEach es X.env)).any (·.1) = false := by rfl) : Sim X W φ (mB vMin ml) (.Call (.Name "min" p) (e :: es) [] pos) := r_blt S (callr_min S.calm) vr_min boot_min' hfr h ha he hpl
theorem b_all (S : Cok X W T φ k C) (hfr : T.free "all" = true) (h : C.gl "all" = true) (ha : SimA X W φ ml (e :: es)) (he : starEach (e :: es) X.env = (false, eval e X.env) :: starEach es X.env := by rfl) (hpl : (backTo pos (starEach es X.env)).any (·.1) = false := by rfl) : Sim X W φ (mB vAll ml) (.Call (.Name "all" p) (e :: es) [] pos) := r_blt S (cr_all S.calm) vr_all boot_all' hfr h ha he hpl
theorem b_any (S : Cok X W T φ k C) (hfr : T.free "any" = true) (h : C.gl "any" = true) (ha : SimA X W φ ml (e :: es)) (he : starEach (e :: es) X.env = (false, eval e X.env) :: starEach es X.env := by rfl) (hpl : (backTo pos (starEach es X.env)).any (·.1) = false := by rfl) : Sim X W φ (mB vAny ml) (.Call (.Name "any" p) (e :: es) [] pos) := r_blt S (cr_any S.calm) vr_any boot_any' hfr h ha he hpl
theorem b_sum (S : Cok X W T φ k C) (hfr : T.free "sum" = true) (h : C.gl "sum" = true) (ha : SimA X W φ ml (e :: es)) (he : starEach (e :: es) X.env = (false, eval e X.env) :: starEach es X.env := by rfl) (hpl : (backTo pos (starEach es X.env)).any (·.1) = false := by rfl) : Sim X W φ (mB vSum ml) (.Call (.Name "sum" p) (e :: es) [] pos) := r_blt S (cr_sum S.calm) vr_sum boot_sum' hfr h ha he hpl
theorem b_sorted (S : Cok X W T φ k C) (hfr : T.free "sorted" = true) (h : C.gl "sorted" = true) (ha : SimA X W φ ml (e :: es)) (he : starEach (e :: es) X.env = (false, eval e X.env) :: starEach es X.env := by rfl) (hpl : (backTo pos (starEach es X.env)).any (·.1) = false := by rfl) : Sim X W φ (mB vSortedL ml) (.Call (.Name "sorted" p) (e :: es) [] pos) := r_blt S callr_sorted vr_sortedL boot_sorted' hfr h ha he hpl
theorem b_repr (S : Cok X W T φ k C) (hfr : T.free "repr" = true) (h : C.gl "repr" = true) (ha : SimA X W φ ml (e :: es)) (he : starEach (e :: es) X.env = (false, eval e X.env) :: starEach es X.env := by rfl) (hpl : (backTo pos (starEach es X.env)).any (·.1) = false := by rfl) : Sim X W φ (mB vRepr ml) (.Call (.Name "repr" p) (e :: es) [] pos) := r_blt S (callr_repr S.rm.g S.un) vr_repr boot_repr' hfr h ha he hpl
theorem b_isinstance (S : Cok X W T φ k C) (hfr : T.free "isinstance" = true) (h : C.gl "isinstance" = true) (ha : SimA X W φ ml (e :: es)) (he : starEach (e :: es) X.env = (false, eval e X.env) :: starEach es X.env := by rfl) (hpl : (backTo pos (starEach es X.env)).any (·.1) = false := by rfl) : Sim X W φ (mB vIsi ml) (.Call (.Name "isinstance" p) (e :: es) [] pos) := r_blt S call_isi vr_isi boot_isinstance' hfr h ha he hpl
theorem b_int (S : Cok X W T φ k C) (hfr : T.free "int" = true) (h : C.gl "int" = true) (ha : SimA X W φ ml (e :: es)) (he : starEach (e :: es) X.env = (false, eval e X.env) :: starEach es X.env := by rfl) (hpl : (backTo pos (starEach es X.env)).any (·.1) = false := by rfl) : Sim X W φ (mB vInt ml) (.Call (.Name "int" p) (e :: es) [] pos) := r_btt S callr_int vr_int boot_int' hfr h ha he hpl
theorem b_str (S : Cok X W T φ k C) (hfr : T.free "str" = true) (h : C.gl "str" = true) (ha : SimA X W φ ml (e :: es)) (he : starEach (e :: es) X.env = (false, eval e X.env) :: starEach es X.env := by rfl) (hpl : (backTo pos (starEach es X.env)).any (·.1) = false := by rfl) : Sim X W φ (mB vStr ml) (.Call (.Name "str" p) (e :: es) [] pos) := r_btt S call_str_int vr_str boot_str' hfr h ha he hpl
theorem b_list (S : Cok X W T φ k C) (hfr : T.free "list" = true) (h : C.gl "list" = true) (ha : SimA X W φ ml (e :: es)) (he : starEach (e :: es) X.env = (false, eval e X.env) :: starEach es X.env := by rfl) (hpl : (backTo pos (starEach es X.env)).any (·.1) = false := by rfl) : Sim X W φ (mB vList ml) (.Call (.Name "list" p) (e :: es) [] pos) := r_btt S (callr_list S.calm) vr_list boot_list' hfr h ha he hpl
theorem b_tuple (S : Cok X W T φ k C) (hfr : T.free "tuple" = true) (h : C.gl "tuple" = true) (ha : SimA X W φ ml (e :: es)) (he : starEach (e :: es) X.env = (false, eval e X.env) :: starEach es X.env := by rfl) (hpl : (backTo pos (starEach es X.env)).any (·.1) = false := by rfl) : Sim X W φ (mB vTuple ml) (.Call (.Name "tuple" p) (e :: es) [] pos) := r_btt S call_tuple_of vr_tuple boot_tuple' hfr h ha he hpl
theorem b_dict (S : Cok X W T φ k C) (hfr : T.free "dict" = true) (h : C.gl "dict" = true) (ha : SimA X W φ ml (e :: es)) (he : starEach (e :: es) X.env = (false, eval e X.env) :: starEach es X.env := by rfl) (hpl : (backTo pos (starEach es X.env)).any (·.1) = false := by rfl) : Sim X W φ (mB vDict ml) (.Call (.Name "dict" p) (e :: es) [] pos) := r_btt S (callr_dict S.calm) vr_dict boot_dict' hfr h ha he hpl
theorem b_list_append (S : Cok X W T φ k C) (ho : Sim X W φ m o) (ha : SimA X W φ ml (e :: es)) (hbase : attributeBase o "append" X.env (eval o X.env) = eval o X.env := by rfl) (hfew : ((backTo pos (starEach (e :: es) X.env)).all (fun x => !x.1) && (backToKw pos (keywordEach [] X.env)).all (fun x => x.1.isSome) && decide ((e :: es).length + ([] : List Keyword).length + (if ([] : List Keyword).isEmpty then 0 else 1) < 30)) = true := by rfl) (hline : (apos.endLine == pos.line) = true := by rfl) (hs : starEach (e :: es) X.env = (false, eval e X.env) :: starEach es X.env := by rfl) (hpl : (backTo pos (starEach es X.env)).any (·.1) = false := by rfl) : Sim X W φ (mBM kdLst vAppend m ml) (.Call (.Attribute o "append" apos) (e :: es) [] pos) := sim_bm PySem.F.plainAttrs_list PySem.F.slot_list_append PySem.F.type_list_append mt_append kd_lst vr_append ho ha hbase hfew hline hs hpl
theorem b_list_extend (S : Cok X W T φ k C) (ho : Sim X W φ m o) (ha : SimA X W φ ml (e :: es)) (hbase : attributeBase o "extend" X.env (eval o X.env) = eval o X.env := by rfl) (hfew : ((backTo pos (starEach (e :: es) X.env)).all (fun x => !x.1) && (backToKw pos (keywordEach [] X.env)).all (fun x => x.1.isSome) && decide ((e :: es).length + ([] : List Keyword).length + (if ([] : List Keyword).isEmpty then 0 else 1) < 30)) = true := by rfl) (hline : (apos.endLine == pos.line) = true := by rfl) (hs : starEach (e :: es) X.env = (false, eval e X.env) :: starEach es X.env := by rfl) (hpl : (backTo pos (starEach es X.env)).any (·.1) = false := by rfl) : Sim X W φ (mBM kdLst vExtend m ml) (.Call (.Attribute o "extend" apos) (e :: es) [] pos) := sim_bm PySem.F.plainAttrs_list PySem.F.slot_list_extend PySem.F.type_list_extend mt_extend kd_lst vr_extend ho ha hbase hfew hline hs hpl
theorem b_list_pop0 (S : Cok X W T φ k C) (ho : Sim X W φ m o) (hbase : attributeBase o "pop" X.env (eval o X.env) = eval o X.env := by rfl) (hline : (apos.endLine == pos.line) = true := by rfl) : Sim X W φ (mBM kdLst vPop m mNil) (.Call (.Attribute o "pop" apos) [] [] pos) := sim_bm0 PySem.F.plainAttrs_list PySem.F.slot_list_pop PySem.F.type_list_pop mt_pop kd_lst vr_pop ho hbase hline
theorem b_list_pop (S : Cok X W T φ k C) (ho : Sim X W φ m o) (ha : SimA X W φ ml (e :: es)) (hbase : attributeBase o "pop" X.env (eval o X.env) = eval o X.env := by rfl) (hfew : ((backTo pos (starEach (e :: es) X.env)).all (fun x => !x.1) && (backToKw pos (keywordEach [] X.env)).all (fun x => x.1.isSome) && decide ((e :: es).length + ([] : List Keyword).length + (if ([] : List Keyword).isEmpty then 0 else 1) < 30)) = true := by rfl) (hline : (apos.endLine == pos.line) = true := by rfl) (hs : starEach (e :: es) X.env = (false, eval e X.env) :: starEach es X.env := by rfl) (hpl : (backTo pos (starEach es X.env)).any (·.1) = false := by rfl) : Sim X W φ (mBM kdLst vPopAt m ml) (.Call (.Attribute o "pop" apos) (e :: es) [] pos) := sim_bm PySem.F.plainAttrs_list PySem.F.slot_list_pop PySem.F.type_list_pop mt_popAt kd_lst vr_popAt ho ha hbase hfew hline hs hpl
theorem b_list_remove (S : Cok X W T φ k C) (ho : Sim X W φ m o) (ha : SimA X W φ ml (e :: es)) (hbase : attributeBase o "remove" X.env (eval o X.env) = eval o X.env := by rfl) (hfew : ((backTo pos (starEach (e :: es) X.env)).all (fun x => !x.1) && (backToKw pos (keywordEach [] X.env)).all (fun x => x.1.isSome) && decide ((e :: es).length + ([] : List Keyword).length + (if ([] : List Keyword).isEmpty then 0 else 1) < 30)) = true := by rfl) (hline : (apos.endLine == pos.line) = true := by rfl) (hs : starEach (e :: es) X.env = (false, eval e X.env) :: starEach es X.env := by rfl) (hpl : (backTo pos (starEach es X.env)).any (·.1) = false := by rfl) : Sim X W φ (mBM kdLst vRemove m ml) (.Call (.Attribute o "remove" apos) (e :: es) [] pos) := sim_bm PySem.F.plainAttrs_list PySem.F.slot_list_remove PySem.F.type_list_remove L2.mt_remove kd_lst vr_remove ho ha hbase hfew hline hs hpl
theorem b_list_count (S : Cok X W T φ k C) (ho : Sim X W φ m o) (ha : SimA X W φ ml (e :: es)) (hbase : attributeBase o "count" X.env (eval o X.env) = eval o X.env := by rfl) (hfew : ((backTo pos (starEach (e :: es) X.env)).all (fun x => !x.1) && (backToKw pos (keywordEach [] X.env)).all (fun x => x.1.isSome) && decide ((e :: es).length + ([] : List Keyword).length + (if ([] : List Keyword).isEmpty then 0 else 1) < 30)) = true := by rfl) (hline : (apos.endLine == pos.line) = true := by rfl) (hs : starEach (e :: es) X.env = (false, eval e X.env) :: starEach es X.env := by rfl) (hpl : (backTo pos (starEach es X.env)).any (·.1) = false := by rfl) : Sim X W φ (mBM kdLst vCount m ml) (.Call (.Attribute o "count" apos) (e :: es) [] pos) := sim_bm PySem.F.plainAttrs_list PySem.F.slot_list_count PySem.F.type_list_count L2.mt_lcount kd_lst vr_count ho ha hbase hfew hline hs hpl
theorem b_list_index (S : Cok X W T φ k C) (ho : Sim X W φ m o) (ha : SimA X W φ ml (e :: es)) (hbase : attributeBase o "index" X.env (eval o X.env) = eval o X.env := by rfl) (hfew : ((backTo pos (starEach (e :: es) X.env)).all (fun x => !x.1) && (backToKw pos (keywordEach [] X.env)).all (fun x => x.1.isSome) && decide ((e :: es).length + ([] : List Keyword).length + (if ([] : List Keyword).isEmpty then 0 else 1) < 30)) = true := by rfl) (hline : (apos.endLine == pos.line) = true := by rfl) (hs : starEach (e :: es) X.env = (false, eval e X.env) :: starEach es X.env := by rfl) (hpl : (backTo pos (starEach es X.env)).any (·.1) = false := by rfl) : Sim X W φ (mBM kdLst vIndex m ml) (.Call (.Attribute o "index" apos) (e :: es) [] pos) := sim_bm PySem.F.plainAttrs_list PySem.F.slot_list_index PySem.F.type_list_index (mt_indexD S.un) kd_lst vr_index ho ha hbase hfew hline hs hpl
theorem b_str_join (S : Cok X W T φ k C) (ho : Sim X W φ m o) (ha : SimA X W φ ml (e :: es)) (hbase : attributeBase o "join" X.env (eval o X.env) = eval o X.env := by rfl) (hfew : ((backTo pos (starEach (e :: es) X.env)).all (fun x => !x.1) && (backToKw pos (keywordEach [] X.env)).all (fun x => x.1.isSome) && decide ((e :: es).length + ([] : List Keyword).length + (if ([] : List Keyword).isEmpty then 0 else 1) < 30)) = true := by rfl) (hline : (apos.endLine == pos.line) = true := by rfl) (hs : starEach (e :: es) X.env = (false, eval e X.env) :: starEach es X.env := by rfl) (hpl : (backTo pos (starEach es X.env)).any (·.1) = false := by rfl) : Sim X W φ (mBM kdStr vJoin m ml) (.Call (.Attribute o "join" apos) (e :: es) [] pos) := sim_bm PySem.F.plainAttrs_str PySem.F.slot_str_join PySem.F.type_str_join mt_join kd_str vr_join ho ha hbase hfew hline hs hpl
theorem b_str_split (S : Cok X W T φ k C) (ho : Sim X W φ m o) (ha : SimA X W φ ml (e :: es)) (hbase : attributeBase o "split" X.env (eval o X.env) = eval o X.env := by rfl) (hfew : ((backTo pos (starEach (e :: es) X.env)).all (fun x => !x.1) && (backToKw pos (keywordEach [] X.env)).all (fun x => x.1.isSome) && decide ((e :: es).length + ([] : List Keyword).length + (if ([] : List Keyword).isEmpty then 0 else 1) < 30)) = true := by rfl) (hline : (apos.endLine == pos.line) = true := by rfl) (hs : starEach (e :: es) X.env = (false, eval e X.env) :: starEach es X.env := by rfl) (hpl : (backTo pos (starEach es X.env)).any (·.1) = false := by rfl) : Sim X W φ (mBM kdStr vSplit m ml) (.Call (.Attribute o "split" apos) (e :: es) [] pos) := sim_bm PySem.F.plainAttrs_str PySem.F.slot_str_split PySem.F.type_str_split mt_split kd_str vr_split ho ha hbase hfew hline hs hpl

/-- list(range(..)) -/
def vListRg1 : List PV → Sg → R PV
  | [.int j], s => if (smallI j && decide (j.toNat ≤ 2 ^ 24)) then .ok (.ref s.g.length) (s.push (.lst (rngP 0 j.toNat))) else .bad
  | _, _ => .bad
def vListRg2 : PV → PV → Sg → R PV
  | .int i, .int j, s => if (smallI i && smallI j) && decide ((j - i).toNat ≤ 2 ^ 24) then .ok (.ref s.g.length) (s.push (.lst (rngP i (j - i).toNat))) else .bad
  | _, _, _ => .bad
theorem rg_rvs {K : PySem.W.Frag} {mg : Str → Option Value} {H : Hp} {ρ : Nat → Addr} (i j : Int) : RVs K mg H ρ (rngP i (j - i).toNat) (rgV i j) := by
  unfold rngP rgV
  refine paired_of (by simp) fun n x v e1 e2 => ?_
  rw [List.getElem?_map] at e1 e2
  cases e3 : (List.range (j - i).toNat)[n]? with
  | none => rw [e3] at e1; cases e1
  | some q =>
    rw [e3] at e1 e2
    cases e1
    cases e2
    exact .int _
def mListRg1 (ma : ME) : ME := mUn (fun v s => vListRg1 [v] s) ma
theorem b_listRg1 (S : Cok X W T φ k C) {p2 pos2 : Pos} (hfl : T.free "list" = true) (hl : C.gl "list" = true) (hfr : T.free "range" = true) (h : C.gl "range" = true) (ha : Sim X W φ ma a) (na : starEach [a] X.env = (false, eval a X.env) :: starEach [] X.env := by rfl)
    (na2 : starEach [.Call (.Name "range" p2) [a] [] pos2] X.env = (false, eval (.Call (.Name "range" p2) [a] [] pos2) X.env) :: starEach [] X.env := by rfl) : Sim X W φ (mListRg1 ma) (.Call (.Name "list" p) [.Call (.Name "range" p2) [a] [] pos2] [] pos) := by
  refine Sim.mk1 (PE.imp (pe_listRg S.calm (S.gl hl).1 (S.F.free _ hfl) (prg_1 (S.gl h).1 (S.F.free _ hfr) ha.pe na) na2) fun σ H Q q => ?_) (fun _ => rfl) fun p s => (ha.gd p s).bind fun v s' _ => ?_
  · obtain ⟨ρ, p, s, rel, sr, q⟩ := q
    refine tE_seq rel sr q fun v s1 ρ1 H1 u e1 n1 b1 r1 sr1 h1 => ?_
    have h1 : PostE X.K X.mg W ρ1 s1 H1 σ Q (vListRg1 [v] s1) := h1
    cases v with
    | int j =>
      cases r1
      have h1 : PostE X.K X.mg W ρ1 s1 H1 σ Q (if (smallI j && decide (j.toNat ≤ 2 ^ 24)) then .ok (.ref s1.g.length) (s1.push (.lst (rngP 0 j.toNat))) else .bad) := h1
      by_cases c : (smallI j && decide (j.toNat ≤ 2 ^ 24)) = true
      · rw [if_pos c] at h1
        obtain ⟨c1, c2⟩ := Bool.and_eq_true_iff.mp c
        obtain ⟨c3, c4⟩ := Bool.and_eq_true_iff.mp (smallI_of c1)
        have e0 : (j - 0).toNat = j.toNat := by rw [Int.sub_zero]
        refine ⟨j, rfl, ⟨by decide, by decide, of_decide_eq_true c3, of_decide_eq_true c4, by rw [e0]; exact of_decide_eq_true c2⟩, fun D hD => ?_⟩
        have q2 := rg_rvs (K := X.K) (mg := X.mg) (H := H1) (ρ := ρ1) 0 j
        rw [e0] at q2
        exact post_ok h1 (rv_lst_new n1.rel hD (rngP_bd _ _ _) q2) bd_ref_new rv_ref_new
      · rw [if_neg c] at h1; exact h1.elim
    | _ => exact h1.elim
  · unfold vListRg1
    split
    · split
      · exact Gd.push _ _
      · trivial
    · trivial
/-- NAME.index(text), NAME a constant tuple of texts -/
def idxS (z : Str) : List Str → Option Nat
  | [] => none
  | x :: r => if x = z then some 0 else (idxS z r).map (· + 1)
theorem idxS_spec {z : Str} : ∀ {l : List Str} {j : Nat}, idxS z l = some j → l[j]? = some z ∧ ∀ m : Nat, m < j → l[m]? ≠ some z
  | [], j, e => by cases e
  | x :: r, j, e => by
    unfold idxS at e
    by_cases c : x = z
    · rw [if_pos c] at e
      cases e
      exact ⟨by rw [c]; rfl, fun m h => absurd h (Nat.not_lt_zero _)⟩
    · rw [if_neg c] at e
      cases e1 : idxS z r with
      | none => rw [e1] at e; cases e
      | some i =>
        rw [e1] at e
        cases e
        obtain ⟨h1, h2⟩ := idxS_spec e1
        refine ⟨h1, fun m h => ?_⟩
        cases m with
        | zero => exact fun z => c (Option.some.inj z)
        | succ m => exact h2 m (Nat.lt_of_succ_lt_succ h)
def mCIdx (wds : List Str) (m : ME) : ME := fun φ p s => (m φ p s).bind fun v s => match v with
  | .str z => (match idxS z wds with | some j => .ok (.int (j : Nat)) s | none => .bad)
  | _ => .bad
theorem strs_rv {K : PySem.W.Frag} {mg : Str → Option Value} {H : Hp} {ρ : Nat → Addr} : ∀ {wds : List Str} {us : List V}, RVs K mg H ρ (wds.map .str) us → us = wds.map V.str
  | [], _, r => by cases r; rfl
  | x :: r, us, h => by
    cases h with
    | cons h t => cases h; rw [strs_rv t]; rfl
theorem b_cidx (S : Cok X W T φ k C) {wds : List Str} (hc : T.con x = some (.tup (wds.map .str))) (ht : T.ctup x = true) (h : C.gl x = true) (he : Sim X W φ m e)
    (hbase : attributeBase (.Name x p) "index" X.env (eval (.Name x p) X.env) = eval (.Name x p) X.env := by rfl) (hfew : ((backTo pos (starEach [e] X.env)).all (fun x => !x.1) && (backToKw pos (keywordEach [] X.env)).all (fun x => x.1.isSome) && decide (([e] : List Expr).length + ([] : List Keyword).length + (if ([] : List Keyword).isEmpty then 0 else 1) < 30)) = true := by rfl)
    (hline : (apos.endLine == pos.line) = true := by rfl) (hs : starEach [e] X.env = (false, eval e X.env) :: starEach [] X.env := by rfl) : Sim X W φ (mCIdx wds m) (.Call (.Attribute (.Name x p) "index" apos) [e] [] pos) := by
  obtain ⟨g, hd, _⟩ := S.gl h
  obtain ⟨u, u', hm, r, rv, hb⟩ := S.F.con x _ hc
  obtain ⟨ad, ob, hm2, hk, hcl, hdd⟩ := S.F.ctup x ht
  rw [hm] at hm2
  cases hm2
  have hu : u = .ref ad := by
    cases u with
    | ref q => cases r; rfl
    | non => cases r
    | bl _ => cases r
    | int _ => obtain ⟨_, z⟩ := r; cases z
    | str _ => obtain ⟨_, z⟩ := r; cases z
    | byt _ => obtain ⟨_, z⟩ := r; cases z
    | flt _ => obtain ⟨_, z⟩ := r; cases z
    | ty _ => cases r
  subst hu
  have hne : SimA X W φ (mCons m mNil) [e] := sima_cons he sima_nil hs
  refine Sim.mk1 (PE.imp (pe_bm PySem.F.plainAttrs_tuple PySem.F.slot_tuple_index PySem.F.type_tuple_index mt_tup_index (pe_glob g hm r hd) hne.pa hbase hfew hline hs rfl) fun σ H Q q => ?_) (fun _ => rfl) fun p s => (he.gd p s).bind fun v s' _ => ?_
  · refine ⟨.inr (.inl ⟨rfl, ob, hk, hcl, hdd⟩), ?_⟩
    obtain ⟨ρ, p, s, rel, sr, q⟩ := q
    refine ⟨ρ, p, s, rel, sr, ?_⟩
    have q : PostE X.K X.mg W ρ s H σ Q ((m φ p s).bind fun v s => match v with
      | .str z => (match idxS z wds with | some j => .ok (.int (j : Nat)) s | none => .bad)
      | _ => .bad) := q
    show PostL X.K X.mg W ρ s H σ _ ((m φ p s).bind fun v s => .ok [v] s)
    cases e1 : m φ p s with
    | bad => rw [e1] at q; exact q.elim
    | err C v s1 => rw [e1] at q; exact q
    | ok v s1 =>
      rw [e1] at q
      intro ρ1 H1 us n1 r1
      cases v with
      | str z =>
        have q : PostE X.K X.mg W ρ s H σ Q (match idxS z wds with | some j => .ok (.int (j : Nat)) s1 | none => .bad) := q
        cases e2 : idxS z wds with
        | none => rw [e2] at q; exact q.elim
        | some j =>
          rw [e2] at q
          obtain ⟨_, rr⟩ := r1
          cases rr with
          | cons r2 t =>
            cases t
            cases r2
            obtain ⟨a2, vs, ea, hq, hvs⟩ := RV.tup_iff.mp (rv H1 ρ1)
            cases ea
            have hvs2 := strs_rv hvs
            subst hvs2
            obtain ⟨h1, h2⟩ := idxS_spec e2
            exact ⟨_, wds, z, j, rfl, rfl, hq, h1, h2, q ρ1 H1 (.int (j : Nat)) n1 ⟨by rw [PV.bd], .int _⟩⟩
      | _ => exact q.elim
  · split
    · split
      · exact Gd.refl _
      · trivial
    · trivial
end
end Bi

end
section
set_option Elab.async false
set_option linter.all false
set_option autoImplicit false
set_option maxRecDepth 100000
set_option maxHeartbeats 1000000
/-! Bi29: in, not in, of an own class; method calls. -/
namespace Bi
open PySem L2 PySem.Spec PyProof.Rows
def ctn : Str := Str.ofString "__contains__"
/-- y in x by x's own method -/
def ownIn (T : Tab) (φ : Phi) (y x : PV) (s : Sg) : Option (R PV) := match x with
  | .ref n => (match s.g[n]? with | some (.ins C _) => if T.meth C ctn then some (noErr (φ (qn C ctn) [.ref n, y] s)) else none | _ => none)
  | _ => none
def vInA (T : Tab) (φ : Phi) (y x : PV) (s : Sg) : R PV := match ownIn T φ y x s with
  | some r => r.bind (onB fun b s => .ok (.bl b) s)
  | none => vIn y x s
def vNotInA (T : Tab) (φ : Phi) (y x : PV) (s : Sg) : R PV := match ownIn T φ y x s with
  | some r => r.bind (onB fun b s => .ok (.bl (!b)) s)
  | none => vNotIn y x s
def rOwnIn (X : Cx) (φ : Phi) (k : Nat) (g : Bool → Bool) : R2 := fun y x H Q => ∃ (q : Str) (n : Nat) (C f : Addr) (fd : FuncData) (ps : List Str) (a dx : Addr) (fs : List (Str × V)), Cls X.K C ∧ SpcOk X.K C ctn f ∧ FnG X.prog X.w X.K X.mg X.base k f fd ps (spPhi X.K X.mg φ q n) ∧ Binds X.K fd ps [] ∧
  x = V.ref a ∧ H a = some (.ins C dx fs) ∧ spPhi X.K X.mg φ q n [.ref a, y] H (fun v H' => ∃ b : Bool, v = .bl b ∧ Q (.bl (g b)) H') E0
section
variable {X : Cx} {W : WX} {φ : Phi} {T : Tab} {k : Nat} {C : Ctx} {m ma mb mc mo mi : ME} {ml : ML} {e a b c o i f : Expr} {es : List Expr} {pos p p1 apos cpos : Pos} {x y z : Str}
theorem op_ownIn (hr : RG k X.A) : OpR X (compareOp .In) (rOwnIn X φ k id) := fun pins s σ H y x v u Q I ry rx ⟨q, n, C, f, fd, ps, a, dx, fs, c, S, G, B, e1, e2, h⟩ => op_inOwn c S G hr B pins s σ H y x v u Q I ry rx ⟨a, dx, fs, e1, e2, h⟩
theorem op_ownNotIn (hr : RG k X.A) : OpR X (compareOp .NotIn) (rOwnIn X φ k (!·)) := fun pins s σ H y x v u Q I ry rx ⟨q, n, C, f, fd, ps, a, dx, fs, c, S, G, B, e1, e2, h⟩ => op_notInOwn c S G hr B pins s σ H y x v u Q I ry rx ⟨a, dx, fs, e1, e2, h⟩
theorem ownIn_run (F : Facts X T φ k) (hd : ∀ C, T.meth C ctn = true → T.dfl (qn C ctn) 2 = some []) (g : Bool → Bool) {ρ : Nat → Addr} {s : Sg} {H : Hp} {σ : L2.St} {y x : PV} {u v : V} {Q : VK} {r : R PV} (rel : Rel X.K X.mg ρ s H) (by_ : y.bd s.g.length = true) (bx : x.bd s.g.length = true) (ry : RV X.K X.mg H ρ y u) (rx : RV X.K X.mg H ρ x v)
    (e : ownIn T φ y x s = some r) (h : PostE X.K X.mg W ρ s H σ Q (r.bind (onB fun b s => .ok (.bl (g b)) s))) : rOwnIn X φ k g u v H Q := by
  unfold ownIn at e
  cases x with
  | ref n =>
    cases rx
    simp only at e
    cases e1 : s.g[n]? with
    | none => rw [e1] at e; cases e
    | some ob =>
      rw [e1] at e
      cases ob with
      | ins C fs =>
        simp only at e
        by_cases hm : T.meth C ctn = true
        · rw [if_pos hm] at e
          cases e
          obtain ⟨Ca, dx, ws, g1, g2, g3⟩ := rel.cell n _ e1
          obtain ⟨c, f, mt, ⟨n', fd, ps, G, hn, hb⟩⟩ := F.meth C ctn Ca hm g1
          obtain ⟨ds, dvs, B, hv, hrv, hdz⟩ := hb 2 _ (hd C hm)
          have hdv : dvs = [] := by
            have z := hrv H ρ
            cases z
            rfl
          have hds := vals_nil hv hdv
          subst hdv hds
          have nb : φ (qn C ctn) [.ref n, y] s ≠ .bad := fun z => by rw [z] at h; exact h
          refine ⟨_, n', Ca, f, fd, ps, ρ n, dx, ws, c, ⟨mt.at_, mt.fn⟩, G, B, rfl, g2, ρ, s, [.ref n, y], rel, by simp [bx, by_], .cons (.ref n) (.cons ry .nil), hn _ _ nb, ?_⟩
          cases e5 : φ (qn C ctn) [.ref n, y] s with
          | bad => exact absurd e5 nb
          | err D w s' => rw [e5] at h; exact h.elim
          | ok w s' =>
            rw [e5] at h
            intro ρ' H' uu n1 ru
            have h : PostE X.K X.mg W ρ s H σ Q (onB (fun b s => .ok (.bl (g b)) s) w s') := h
            cases w with
            | bl bb =>
              obtain ⟨_, ru⟩ := ru
              cases ru
              exact ⟨bb, rfl, h ρ' H' (.bl (g bb)) n1 ⟨by rw [PV.bd], .bl _⟩⟩
            | _ => exact h.elim
        · rw [if_neg hm] at e; cases e
      | _ => cases e
  | _ => cases e
theorem ownIn_gd (F : Facts X T φ k) {y x : PV} {s : Sg} {r : R PV} (e : ownIn T φ y x s = some r) : GdR s r := by
  unfold ownIn at e
  split at e
  · split at e
    · split at e
      · cases e
        exact noErr_gd (F.gd _ _ _)
      · cases e
    · cases e
  · cases e
theorem onB_gd {g : Bool → Bool} (v : PV) (s : Sg) : GdR s (onB (fun b s => (R.ok (PV.bl (g b)) s : R PV)) v s) := by
  cases v with
  | bl b => exact Gd.refl s
  | _ => trivial
theorem vr_inA (F : Facts X T φ k) (hd : ∀ C, T.meth C ctn = true → T.dfl (qn C ctn) 2 = some []) : VR2 X.K X.mg (vInA T φ) (fun y x H Q => rIn4 X.K y x H Q ∨ rOwnIn X φ k id y x H Q) where
  run := fun W ρ s H σ a b x y Q rel ba bb ra rb h => by
    unfold vInA at h
    cases e : ownIn T φ a b s with
    | none => rw [e] at h; exact .inl (vr_in.run W ρ s H σ a b x y Q rel ba bb ra rb h)
    | some r => rw [e] at h; exact .inr (ownIn_run F hd id rel ba bb ra rb e h)
  gd := fun a b s => by
    unfold vInA
    cases e : ownIn T φ a b s with
    | none => exact vr_in.gd (K := X.K) (mg := X.mg) a b s
    | some r => exact (ownIn_gd F e).bind fun v s' _ => onB_gd (g := id) v s'
theorem vr_notInA (F : Facts X T φ k) (hd : ∀ C, T.meth C ctn = true → T.dfl (qn C ctn) 2 = some []) : VR2 X.K X.mg (vNotInA T φ) (fun y x H Q => rNotIn4 X.K y x H Q ∨ rOwnIn X φ k (!·) y x H Q) where
  run := fun W ρ s H σ a b x y Q rel ba bb ra rb h => by
    unfold vNotInA at h
    cases e : ownIn T φ a b s with
    | none => rw [e] at h; exact .inl (vr_notIn.run W ρ s H σ a b x y Q rel ba bb ra rb h)
    | some r => rw [e] at h; exact .inr (ownIn_run F hd (!·) rel ba bb ra rb e h)
  gd := fun a b s => by
    unfold vNotInA
    cases e : ownIn T φ a b s with
    | none => exact vr_notIn.gd (K := X.K) (mg := X.mg) a b s
    | some r => exact (ownIn_gd F e).bind fun v s' _ => onB_gd (g := (!·)) v s'
theorem r_inA (S : Cok X W T φ k C) (hd : ∀ C, T.meth C ctn = true → T.dfl (qn C ctn) 2 = some []) (ha : Sim X W φ ma a) (hb : Sim X W φ mb b) (hm : behindInMarks .In b = false := by rfl) : Sim X W φ (mBin (vInA T φ) ma mb) (.Compare a [.In] [b] pos) := sim_cmp (OpR.or (opr_in S.un) (op_ownIn S.rk)) (vr_inA S.F hd) ha hb hm
theorem r_notInA (S : Cok X W T φ k C) (hd : ∀ C, T.meth C ctn = true → T.dfl (qn C ctn) 2 = some []) (ha : Sim X W φ ma a) (hb : Sim X W φ mb b) (hm : behindInMarks .NotIn b = false := by rfl) : Sim X W φ (mBin (vNotInA T φ) ma mb) (.Compare a [.NotIn] [b] pos) := sim_cmp (OpR.or (opr_notIn S.un) (op_ownNotIn S.rk)) (vr_notInA S.F hd) ha hb hm
/-- o.m(..), m of an own class -/
theorem r_meth (S : Cok X W T φ k C) {mm : Str} {dps : Str → List PV} {j : Nat} (ho : Sim X W φ m o) (ha : SimA X W φ ml (e :: es)) (hd : ∀ C, T.meth C mm = true → T.dfl (qn C mm) j = some (dps (qn C mm)))
    (ht : eval (.Call (.Attribute o mm apos) (e :: es) [] pos) X.env = (do
      let ov ← eval o X.env
      standAt apos.atName
      let (f, first) ← holding [ov] (getMethod ov mm (plainOf o X.env))
      callWith pos f first (backTo pos (starEach (e :: es) X.env)) (backToKw pos (keywordEach [] X.env))))
    (hst : starEach (e :: es) X.env = (false, eval e X.env) :: starEach es X.env := by rfl) (hpl : (backTo pos (starEach es X.env)).any (·.1) = false := by rfl) : Sim X W φ (mMeth T dps mm m ml) (.Call (.Attribute o mm apos) (e :: es) [] pos) := sim_meth S.F S.rk S.tk ho ha hd hst hpl ht
theorem r_meth0 (S : Cok X W T φ k C) {mm : Str} {dps : Str → List PV} (ho : Sim X W φ m o) (hd : ∀ C, T.meth C mm = true → T.dfl (qn C mm) 1 = some (dps (qn C mm)))
    (ht : eval (.Call (.Attribute o mm apos) [] [] pos) X.env = (do
      let ov ← eval o X.env
      standAt apos.atName
      let (f, first) ← holding [ov] (getMethod ov mm (plainOf o X.env))
      callWith pos f first (backTo pos (starEach [] X.env)) (backToKw pos (keywordEach [] X.env)))) : Sim X W φ (mMeth T dps mm m mNil) (.Call (.Attribute o mm apos) [] [] pos) := sim_meth0 S.F S.rk S.tk ho hd ht
end
end Bi
/-! ### == of a dict and an empty one -/
namespace Bi
open PySem L2 PySem.Spec PyProof.Rows
def rEqE : R2 := fun x y H Q => ∃ a b kvs, x = .ref a ∧ y = .ref b ∧ H a = some (.dK kvs) ∧ H b = some (.dK []) ∧ Q (.bl kvs.isEmpty) H
theorem op_eqE {X : Cx} (hu : X.A.units + 64 < cLine) : OpR X (compareOp .Eq) rEqE := by
  intro pins s σ H x y v u Q I rx ry h
  obtain ⟨a, b, kvs, rfl, rfl, ha, hb, q⟩ := h
  cases (show v = Value.ref a from rx)
  cases (show u = Value.ref b from ry)
  obtain ⟨_, ya, va, ra, da⟩ := (show ObjOk X.prog X.w H s.heap a (.dK kvs) from I.hok a _ ha)
  obtain ⟨_, yb, vb, rb, db⟩ := (show ObjOk X.prog X.w H s.heap b (.dK []) from I.hok b _ hb)
  have lb : vb = [] := by
    have := rb.length
    exact List.eq_nil_of_length_eq_zero this.symm
  subst lb
  have la := ra.length
  refine PySem.W.rcP_dicts (knd := mixKind X.prog X.w) (r := true) ya yb da db (by omega) (fun hl => ?_) _ _ ⟨.bl kvs.isEmpty, H, I, ?_, q⟩
  · have : va = [] := List.eq_nil_of_length_eq_zero hl
    subst this
    exact .nil
  · have e : (va.length == ([] : List (Key × Value)).length && true) = kvs.isEmpty := by
      cases kvs with
      | nil =>
        have : va.length = 0 := by simpa using la.symm
        simp [this]
      | cons p r =>
        have : va.length ≠ 0 := by simp at la; omega
        simp [this]
    rw [e]
    rfl
def eqE (a b : PV) (s : Sg) : Option Bool := match a, b with
  | .ref m, .ref n => (match s.g[m]?, s.g[n]? with
    | some (.dic kvs false), some (.dic [] false) => some kvs.isEmpty
    | _, _ => none)
  | _, _ => none
def vEqX (a b : PV) (s : Sg) : R PV := match eqE a b s with
  | some t => .ok (.bl t) s
  | none => vEq a b s
theorem vr_eqX {K : PySem.W.Frag} {mg : Str → Option Value} : VR2 K mg vEqX (rOr (rEqD K) rEqE) where
  run := fun W ρ s H σ a b x y Q rel ba bb ra rb h => by
    unfold vEqX at h
    cases e : eqE a b s with
    | none => rw [e] at h; exact .inl (vr_eq.run W ρ s H σ a b x y Q rel ba bb ra rb h)
    | some t =>
      rw [e] at h
      right
      unfold eqE at e
      cases a with
      | ref m =>
        cases b with
        | ref n =>
          cases ra; cases rb
          dsimp only at e
          split at e
          · rename_i kvs e1 e2
            obtain ⟨ws, h1, r1⟩ := (show CellRel K mg H ρ (.dic kvs false) (ρ m) from rel.cell m _ e1)
            obtain ⟨ws2, h2, r2⟩ := (show CellRel K mg H ρ (.dic [] false) (ρ n) from rel.cell n _ e2)
            cases r2
            refine ⟨_, _, ws, rfl, rfl, h1, h2, ?_⟩
            have et : kvs.isEmpty = t := Option.some.inj e
            subst et
            have q := post_ok h (Nx.refl rel) (by rw [PV.bd]) (.bl _)
            have l1 := r1.length
            have : ws.isEmpty = kvs.isEmpty := by
              cases ws <;> cases kvs <;> simp_all
            rw [this]
            exact q
          · cases e
        | _ => cases e
      | _ => cases e
  gd := fun a b s => by
    unfold vEqX
    split
    · exact Gd.refl s
    · exact vr_eq.gd (K := K) (mg := mg) a b s
section
variable {X : Cx} {W : WX} {φ : Phi} {T : Tab} {k : Nat} {C : Ctx} {ma mb : ME} {a b : Expr} {pos : Pos}
theorem r_eqX (S : Cok X W T φ k C) (ha : Sim X W φ ma a) (hb : Sim X W φ mb b) (hm : behindInMarks .Eq b = false := by rfl) : Sim X W φ (mBin vEqX ma mb) (.Compare a [.Eq] [b] pos) := sim_cmp (OpR.or (op_eqD (by have := S.un; omega)) (op_eqE (by have := S.un; omega))) vr_eqX ha hb hm
end
end Bi

end
section
set_option Elab.async false
set_option linter.all false
set_option autoImplicit false
set_option maxRecDepth 100000
set_option maxHeartbeats 1000000
/-! Bi30: a table by lists; the rules by it. -/
namespace Bi
open PySem L2 PySem.Spec PyProof.Rows
structure TD where
  fns : List Str
  dfs : List (Str × Nat × List PV)
  mts : List (Str × Str)
  prs : List (Str × Str)
  ats : List (Str × Str)
  mks : List Str
  cns : List (Str × PV)
  frs : List Str
  cts : List Str
  exs : List (Str × List Str) := []
  file : Str := ""
def TD.dfl (d : TD) (x : Str) (j : Nat) : Option (List PV) := match d.dfs.lookup x with
  | some (n, ds) => if (decide (j ≤ n) && decide (n ≤ j + ds.length)) = true then some (ds.drop (j + ds.length - n)) else none
  | none => none
def TD.tab (d : TD) : Tab where
  fn x := d.fns.contains x
  dfl := d.dfl
  meth C m := d.mts.contains (C, m)
  prop C m := d.prs.contains (C, m)
  attr C m := d.ats.contains (C, m)
  mkr C := d.mks.contains C
  con x := d.cns.lookup x
  free x := d.frs.contains x
  ctup x := d.cts.contains x
  exc x := d.exs.lookup x
def nilD : Option (List PV) → Bool
  | some [] => true
  | _ => false
theorem nilD_ok {o : Option (List PV)} (h : nilD o = true) : o = some [] := by
  unfold nilD at h
  split at h
  · rfl
  · cases h
theorem has_nil {ps : List (Str × Str)} {d : TD} {m : Str} {j : Nat} (h : ps.all (fun p => !(p.2 == m) || nilD (d.dfl (qn p.1 m) j)) = true) (C : Str) (hc : ps.contains (C, m) = true) : d.dfl (qn C m) j = some [] := by
  have q := List.all_eq_true.mp h _ (List.contains_iff_mem.mp hc)
  simp only [Bool.or_eq_true, Bool.not_eq_true', beq_eq_false_iff_ne] at q
  rcases q with q | q
  · exact absurd rfl q
  · exact nilD_ok q
theorem has_dfl {d : TD} {m : Str} {j : Nat} (h : d.mts.all (fun p => !(p.2 == m) || nilD (d.dfl (qn p.1 m) j)) = true) : ∀ C, d.tab.meth C m = true → d.tab.dfl (qn C m) j = some [] := has_nil h
def TD.dps (d : TD) (j : Nat) (q : Str) : List PV := (d.dfl q j).getD []
theorem has_dps {d : TD} {m : Str} {j : Nat} (h : d.mts.all (fun p => !(p.2 == m) || (d.dfl (qn p.1 m) j).isSome) = true) : ∀ C, d.tab.meth C m = true → d.tab.dfl (qn C m) j = some (d.dps j (qn C m)) := fun C hc => by
  have q := List.all_eq_true.mp h _ (List.contains_iff_mem.mp hc)
  simp only [Bool.or_eq_true, Bool.not_eq_true', beq_eq_false_iff_ne] at q
  rcases q with q | q
  · exact absurd rfl q
  · show d.dfl (qn C m) j = some ((d.dfl (qn C m) j).getD [])
    cases e : d.dfl (qn C m) j with
    | none => rw [e] at q; cases q
    | some v => rfl
section
variable {d : TD} {X : Cx} {W : WX} {φ : Phi} {k : Nat} {C : Ctx} {m ma mb mo mi mx : ME} {ml : ML} {e a b o f : Expr} {es : List Expr} {pos p p1 p2 pos2 apos cpos : Pos} {x : Str}
theorem r_attrT (S : Cok X W d.tab φ k C) {f : Str} (hp : d.prs.all (fun p => !(p.2 == f) || nilD (d.dfl (qn p.1 f) 1)) = true) (ho : Sim X W φ m o) (hab : attributeBase o f X.env (eval o X.env) = eval o X.env := by rfl) : Sim X W φ (mAttr d.tab f m) (.Attribute o f pos) := r_attr S ho (has_nil hp) hab
def mMethD (d : TD) (j : Nat) (mm : Str) (mo : ME) (ml : ML) : ME := mMeth d.tab (d.dps j) mm mo ml
theorem r_methT (S : Cok X W d.tab φ k C) {mm : Str} {j : Nat} (hd : d.mts.all (fun p => !(p.2 == mm) || (d.dfl (qn p.1 mm) j).isSome) = true) (ho : Sim X W φ m o) (ha : SimA X W φ ml (e :: es))
    (ht : eval (.Call (.Attribute o mm apos) (e :: es) [] pos) X.env = (do
      let ov ← eval o X.env
      standAt apos.atName
      let (f, first) ← holding [ov] (getMethod ov mm (plainOf o X.env))
      callWith pos f first (backTo pos (starEach (e :: es) X.env)) (backToKw pos (keywordEach [] X.env))))
    (hst : starEach (e :: es) X.env = (false, eval e X.env) :: starEach es X.env := by rfl) (hpl : (backTo pos (starEach es X.env)).any (·.1) = false := by rfl) : Sim X W φ (mMethD d j mm m ml) (.Call (.Attribute o mm apos) (e :: es) [] pos) := r_meth S ho ha (has_dps hd) ht hst hpl
theorem r_methT0 (S : Cok X W d.tab φ k C) {mm : Str} (hd : d.mts.all (fun p => !(p.2 == mm) || (d.dfl (qn p.1 mm) 1).isSome) = true) (ho : Sim X W φ m o)
    (ht : eval (.Call (.Attribute o mm apos) [] [] pos) X.env = (do
      let ov ← eval o X.env
      standAt apos.atName
      let (f, first) ← holding [ov] (getMethod ov mm (plainOf o X.env))
      callWith pos f first (backTo pos (starEach [] X.env)) (backToKw pos (keywordEach [] X.env)))) : Sim X W φ (mMethD d 1 mm m mNil) (.Call (.Attribute o mm apos) [] [] pos) := r_meth0 S ho (has_dps hd) ht
end
section
variable {T : Tab} {X : Cx} {W : WX} {φ : Phi} {k : Nat} {C : Ctx} {m ma mb mo mi mx : ME} {ml : ML} {e a b o f : Expr} {es : List Expr} {pos p p1 p2 pos2 apos cpos : Pos} {x : Str}
def mLenT (T : Tab) (ml : ML) : ME := fun φ p s => mB (vLen T φ) ml φ p s
def mInT (T : Tab) (ma mb : ME) : ME := fun φ p s => mBin (vInA T φ) ma mb φ p s
def mNotInT (T : Tab) (ma mb : ME) : ME := fun φ p s => mBin (vNotInA T φ) ma mb φ p s
theorem b_lenT (S : Cok X W T φ k C) (hd : ∀ C, T.meth C (Str.ofString "__len__") = true → T.dfl (qn C (Str.ofString "__len__")) 1 = some []) (hfr : T.free "len" = true) (h : C.gl "len" = true) (ha : SimA X W φ ml (e :: es)) (he : starEach (e :: es) X.env = (false, eval e X.env) :: starEach es X.env := by rfl) (hpl : (backTo pos (starEach es X.env)).any (·.1) = false := by rfl) : Sim X W φ (mLenT T ml) (.Call (.Name "len" p) (e :: es) [] pos) := by
  have z := b_len S hd hfr h ha he hpl (p := p)
  exact ⟨z.pe, z.pt, z.gd⟩
theorem r_inT (S : Cok X W T φ k C) (hd : ∀ C, T.meth C ctn = true → T.dfl (qn C ctn) 2 = some []) (ha : Sim X W φ ma a) (hb : Sim X W φ mb b) (hm : behindInMarks .In b = false := by rfl) : Sim X W φ (mInT T ma mb) (.Compare a [.In] [b] pos) := by
  have z := r_inA S hd ha hb hm (pos := pos)
  exact ⟨z.pe, z.pt, z.gd⟩
theorem r_notInT (S : Cok X W T φ k C) (hd : ∀ C, T.meth C ctn = true → T.dfl (qn C ctn) 2 = some []) (ha : Sim X W φ ma a) (hb : Sim X W φ mb b) (hm : behindInMarks .NotIn b = false := by rfl) : Sim X W φ (mNotInT T ma mb) (.Compare a [.NotIn] [b] pos) := by
  have z := r_notInA S hd ha hb hm (pos := pos)
  exact ⟨z.pe, z.pt, z.gd⟩
theorem b_listZip (S : Cok X W T φ k C) (hfl : T.free "list" = true) (hl : C.gl "list" = true) (hfz : T.free "zip" = true) (hz : C.gl "zip" = true) (ha : SimA X W φ ml [a, b]) (hs : starEach [a, b] X.env = (false, eval a X.env) :: starEach [b] X.env := by rfl) (hpl : (backTo pos2 (starEach [b] X.env)).any (·.1) = false := by rfl)
    (hs2 : starEach [.Call (.Name "zip" p2) [a, b] [] pos2] X.env = (false, eval (.Call (.Name "zip" p2) [a, b] [] pos2) X.env) :: starEach [] X.env := by rfl) : Sim X W φ (mB vListZip ml) (.Call (.Name "list" p) [.Call (.Name "zip" p2) [a, b] [] pos2] [] pos) :=
  sim_listZip S.calm (S.gl hl).1 (S.F.free _ hfl) boot_list' (S.gl hz).1 (S.F.free _ hfz) ha hs hpl hs2
theorem b_listItems (S : Cok X W T φ k C) (hfl : T.free "list" = true) (hl : C.gl "list" = true) (he : Sim X W φ m e) (hbase : attributeBase e "items" X.env (eval e X.env) = eval e X.env := by rfl) (hline : (apos.endLine == cpos.line) = true := by rfl)
    (hs : starEach [.Call (.Attribute e "items" apos) [] [] cpos] X.env = (false, eval (.Call (.Attribute e "items" apos) [] [] cpos) X.env) :: starEach [] X.env := by rfl) : Sim X W φ (mUn vListItems m) (.Call (.Name "list" p) [.Call (.Attribute e "items" apos) [] [] cpos] [] pos) :=
  sim_listItems S.calm he (S.gl hl).1 (S.F.free _ hfl) boot_list' hbase hline hs
theorem b_get2 (S : Cok X W T φ k C) (ho : Sim X W φ mo o) (he : Sim X W φ mi e) (hf : Sim X W φ mx f) (base : attributeBase o "get" X.env (eval o X.env) = eval o X.env := by rfl)
    (few : ((backTo cpos (starEach [e, f] X.env)).all (fun x => !x.1) && (backToKw cpos (keywordEach [] X.env)).all (fun x => x.1.isSome)
    && decide (([e, f] : List Expr).length + ([] : List Keyword).length + (if ([] : List Keyword).isEmpty then 0 else 1) < 30)) = true := by rfl)
    (line : (apos.endLine == cpos.line) = true := by rfl) (trees : backTo cpos (starEach [e, f] X.env) = [(false, eval e X.env), (false, eval f X.env)] := by rfl) : Sim X W φ (mGet2 mo mi mx) (.Call (.Attribute o "get" apos) [e, f] [] cpos) :=
  sim_get2 S.un1 ho he hf ⟨base, few, line, trees⟩
end
end Bi

end
section
set_option Elab.async false
set_option linter.all false
set_option autoImplicit false
set_option maxRecDepth 100000
set_option maxHeartbeats 1000000
/-! Bi31: the program's defs, level by level. -/
namespace Bi
open PySem L2 PySem.Spec PyProof.Rows
/-- where a def stands -/
inductive At where
  | glo (x : Str) | mth (C m : Str) | prp (C m : Str)
/-- one def -/
structure Row where
  key : Str
  at_ : At
  name : Str
  qual : Str
  params : Arguments
  body : List Stmt
  scope : Scope
  N : List Str
  ps : List Str
  ds : List PV
  m : MS
def Row.C (r : Row) : Ctx := ⟨r.N, r.scope, fun _ => true⟩
def Ph (rs : List Row) : Nat → Phi
  | 0 => fun _ _ _ => .bad
  | j + 1 => fun x args s => match rs.find? (fun r => r.key == x) with
    | some r => if args.length = r.ps.length then runFn r.m r.N.length (Ph rs j) args s else .bad
    | none => .bad
theorem Ph_at {rs : List Row} {r : Row} {x : Str} (h : rs.find? (fun r => r.key == x) = some r) {args : List PV} (hl : args.length = r.ps.length) (j : Nat) (s : Sg) : Ph rs (j + 1) x args s = runFn r.m r.N.length (Ph rs j) args s := by
  show (match rs.find? (fun r => r.key == x) with
    | some r => if args.length = r.ps.length then runFn r.m r.N.length (Ph rs j) args s else .bad
    | none => .bad) = _
  rw [h]
  exact if_pos hl
theorem Ph_len {rs : List Row} {r : Row} {x : Str} (h : rs.find? (fun r => r.key == x) = some r) : ∀ (j : Nat) (args : List PV) (s : Sg), Ph rs j x args s ≠ .bad → args.length = r.ps.length
  | 0, args, s, e => absurd rfl e
  | j + 1, args, s, e => by
    by_cases hl : args.length = r.ps.length
    · exact hl
    · refine absurd ?_ e
      show (match rs.find? (fun r => r.key == x) with
        | some r => if args.length = r.ps.length then runFn r.m r.N.length (Ph rs j) args s else .bad
        | none => .bad) = _
      rw [h]
      exact if_neg hl
/-- a row's proved part -/
structure ROk (d : TD) (r : Row) : Prop where
  sc : fnB r.N r.ps r.scope = true
  df : d.dfs.lookup r.key = some (r.ps.length, r.ds)
  bd : r.ds.all (PV.bd 0) = true
  bi : ∀ (K : PySem.W.Frag) (dvs : List V) (f : Addr) (fd : FuncData), FunD K r.name r.qual r.params r.body r.scope dvs [] f fd → dvs.length = r.ds.length → ∀ i, i ≤ dvs.length → ∃ es, Vals (dvs.drop i) es ∧ Binds K fd r.ps es
  sim : ∀ (X : Cx) (W : WX) (φ : Phi) (k : Nat), Cok X W d.tab φ k r.C → SimSs X W φ r.m r.body
/-- the def's object -/
def FO (X : Cx) (r : Row) (f : Addr) : Prop := ∃ fd dvs, FunD X.K r.name r.qual r.params r.body r.scope dvs [] f fd ∧ ∀ H ρ, RVs X.K X.mg H ρ r.ds dvs
structure Base (X : Cx) (d : TD) (rs : List Row) : Prop where
  fn : ∀ x, d.tab.fn x = true → ∃ f r, X.mg x = some (.ref f) ∧ rs.find? (fun r => r.key == x) = some r ∧ FO X r f
  meth : ∀ C m Ca, d.tab.meth C m = true → X.mg C = some (.ref Ca) → Cls X.K Ca ∧ ∃ f r, Meth X.K Ca m f ∧ rs.find? (fun r => r.key == qn C m) = some r ∧ FO X r f
  prop : ∀ C m Ca, d.tab.prop C m = true → X.mg C = some (.ref Ca) → Cls X.K Ca ∧ ∃ p f r, PropOf X.K Ca m p f ∧ rs.find? (fun r => r.key == qn C m) = some r ∧ FO X r f
  attr : ∀ C m Ca, d.tab.attr C m = true → X.mg C = some (.ref Ca) → Cls X.K Ca ∧ NoAttr X.K Ca m
  mkr : ∀ C, d.tab.mkr C = true → ∃ Ca f r, X.mg C = some (.ref Ca) ∧ Mk X.K Ca f ∧ rs.find? (fun r => r.key == qn C (Str.ofString "__init__")) = some r ∧ FO X r f
  con : ∀ x v, d.tab.con x = some v → ∃ u u', X.mg x = some u' ∧ RelV u u' ∧ (∀ H ρ, RV X.K X.mg H ρ v u) ∧ v.bd 0 = true
  free : ∀ x, d.tab.free x = true → X.mg x = none
  ctup : ∀ x, d.tab.ctup x = true → ∃ a o, X.mg x = some (.ref a) ∧ X.K.lookup a = some o ∧ o.cls = .type "tuple" ∧ o.dict = none
  exc : ∀ x anc, d.tab.exc x = some anc → ExF X.prog X.w X.K X.mg X.base d.tab.exc x anc
section
variable {X : Cx} {d : TD} {rs : List Row}
theorem find_key {r : Row} {x : Str} (h : rs.find? (fun r => r.key == x) = some r) : r.key = x ∧ r ∈ rs := ⟨beq_iff_eq.mp (List.find?_some (p := fun r : Row => r.key == x) h), List.mem_of_find?_eq_some h⟩
/-- the row's body in the def's context -/
theorem cok_of {r : Row} (R : ROk d r) {φ : Phi} {k : Nat} (F : Facts X d.tab φ k) (f : Addr) (cdv : Value) (A : Around) (outer : List Env) (s : Shared) (H : Hp) (E : XK) (hr : RG (k + 1) (A.deeper (envOfC r.qual r.scope s.heap.objs.size f cdv))) :
    Cok (CF X.prog X.w X.K X.mg X.base r.N r.qual r.scope f cdv A outer s H E) (fun c d _ H => E c d H) d.tab φ k r.C := by
  have S := fn_ok R.sc
  exact {
    N := rfl
    nd := S.nd
    sc := rfl
    kd := S.kind
    F := F.to rfl rfl rfl rfl rfl
    rm := hr
    tk := takes_of rfl rfl rfl (E₁ := fun e' s'' => L2.CX X.prog X.w outer H s E e' s'') rfl
    calm := rfl
    fn := rfl
    po := passes_of (K := fun e s'' => L2.CX X.prog X.w outer H s E e s'') (E₁ := fun e' s'' => L2.CX X.prog X.w outer H s E e' s'') rfl }
theorem ph_gd (B : Base X d rs) (R : ∀ r ∈ rs, ROk d r) {j : Nat} (hj : 2 * j + 2 ≤ 60) (F : Facts X d.tab (Ph rs j) (2 * j)) (x : Str) (args : List PV) (s : Sg) : GdR s (Ph rs (j + 1) x args s) := by
  show GdR s (match rs.find? (fun r => r.key == x) with
    | some r => if args.length = r.ps.length then runFn r.m r.N.length (Ph rs j) args s else .bad
    | none => .bad)
  cases e : rs.find? (fun r => r.key == x) with
  | none => trivial
  | some r =>
    have Rr := R r (find_key e).2
    show GdR s (if args.length = r.ps.length then runFn r.m r.N.length (Ph rs j) args s else .bad)
    by_cases hl : args.length = r.ps.length
    · rw [if_pos hl]
      refine runFn_gd (fun p s => ?_) _ _ _
      have C := cok_of Rr F 0 .none callerA [] X.s_0 X.H_0 (fun _ _ _ => False) ((room_caller.mono (j := 2 * j + 2) hj).deeper _)
      exact (Rr.sim _ _ _ _ C).gd p s
    · rw [if_neg hl]
      trivial
theorem fnF_of (B : Base X d rs) (R : ∀ r ∈ rs, ROk d r) {j : Nat} (F : Facts X d.tab (Ph rs j) (2 * j)) {x : Str} {f : Addr} {r : Row} (e : rs.find? (fun r => r.key == x) = some r) (O : FO X r f) : FnF X d.tab (Ph rs (j + 1)) (2 * (j + 1)) x f := by
  obtain ⟨fd, dvs, D, hv⟩ := O
  obtain ⟨ek, hm⟩ := find_key e
  have Rr := R r hm
  refine ⟨r.ps.length, fd, r.ps, ?_, Ph_len e _, fun i dps hd => ?_⟩
  · refine fnG_ok (k := 2 * j + 1) D (fn_ok Rr.sc) (φ := Ph rs j) (m := r.m) (fun args s h => ?_) fun cdv A outer s H E hr => Rr.sim _ _ _ _ (cok_of Rr F f cdv A outer s H E hr)
    have hl := Ph_len e _ args s h
    exact ⟨hl, Ph_at e hl j s⟩
  · have hd : d.dfl x i = some dps := hd
    unfold TD.dfl at hd
    have hdf := Rr.df
    rw [ek] at hdf
    rw [hdf] at hd
    dsimp only at hd
    split at hd
    · rename_i hi
      cases hd
      have hlen : dvs.length = r.ds.length := ((hv (fun _ => none) fun _ => 0).length).symm
      simp only [Bool.and_eq_true, decide_eq_true_eq] at hi
      obtain ⟨es, h1, h2⟩ := Rr.bi _ _ _ _ D hlen (i + r.ds.length - r.ps.length) (by omega)
      refine ⟨es, _, h2, h1, fun H ρ => paired_drop _ (hv H ρ), ?_⟩
      exact List.all_eq_true.mpr fun y hy => List.all_eq_true.mp Rr.bd y (List.mem_of_mem_drop hy)
    · cases hd
theorem fnF_zero {x : Str} {f : Addr} {r : Row} (R : ∀ r ∈ rs, ROk d r) (e : rs.find? (fun r => r.key == x) = some r) (O : FO X r f) : FnF X d.tab (Ph rs 0) 0 x f := by
  obtain ⟨fd, dvs, D, hv⟩ := O
  obtain ⟨ek, hm⟩ := find_key e
  have Rr := R r hm
  refine ⟨r.ps.length, fd, r.ps, ⟨fun vs H Q E h => ?_, fun A outer s H args us vs Q E hr e0 hbd r hsp => ?_⟩, Ph_len e _, fun i dps hd => ?_⟩
  · obtain ⟨_, _, _, _, _, _, _, z⟩ := h
    exact z.elim
  · obtain ⟨_, _, _, _, _, _, _, z⟩ := hsp
    exact z.elim
  · have hd : d.dfl x i = some dps := hd
    unfold TD.dfl at hd
    have hdf := Rr.df
    rw [ek] at hdf
    rw [hdf] at hd
    dsimp only at hd
    split at hd
    · rename_i hi
      cases hd
      have hlen : dvs.length = r.ds.length := ((hv (fun _ => none) fun _ => 0).length).symm
      simp only [Bool.and_eq_true, decide_eq_true_eq] at hi
      obtain ⟨es, h1, h2⟩ := Rr.bi _ _ _ _ D hlen (i + r.ds.length - r.ps.length) (by omega)
      refine ⟨es, _, h2, h1, fun H ρ => paired_drop _ (hv H ρ), ?_⟩
      exact List.all_eq_true.mpr fun y hy => List.all_eq_true.mp Rr.bd y (List.mem_of_mem_drop hy)
    · cases hd
theorem facts_of (B : Base X d rs) {φ : Phi} {k : Nat} (h : ∀ x f r, rs.find? (fun r => r.key == x) = some r → FO X r f → FnF X d.tab φ k x f) (g : ∀ x args s, GdR s (φ x args s)) : Facts X d.tab φ k where
  fn x hx := by
    obtain ⟨f, r, e1, e2, e3⟩ := B.fn x hx
    obtain ⟨fd, dvs, D, _⟩ := id e3
    exact ⟨f, e1, D.kp, h x f r e2 e3⟩
  meth C m Ca h1 h2 := by
    obtain ⟨c, f, r, e1, e2, e3⟩ := B.meth C m Ca h1 h2
    exact ⟨c, f, e1, h _ f r e2 e3⟩
  prop C m Ca h1 h2 := by
    obtain ⟨c, p, f, r, e1, e2, e3⟩ := B.prop C m Ca h1 h2
    exact ⟨c, p, f, e1, h _ f r e2 e3⟩
  attr := B.attr
  mkr C h1 := by
    obtain ⟨Ca, f, r, e0, e1, e2, e3⟩ := B.mkr C h1
    exact ⟨Ca, f, e0, e1, h _ f r e2 e3⟩
  con := B.con
  free := B.free
  ctup := B.ctup
  gd := g
  exc := B.exc
theorem facts_all (B : Base X d rs) (R : ∀ r ∈ rs, ROk d r) : ∀ j : Nat, 2 * j ≤ 60 → Facts X d.tab (Ph rs j) (2 * j)
  | 0, _ => facts_of B (fun x f r e O => fnF_zero R e O) fun _ _ _ => trivial
  | j + 1, hj => by
    have F := facts_all B R j (by omega)
    exact facts_of B (fun x f r e O => fnF_of B R F e O) fun x args s => ph_gd B R (by omega) F x args s
end
end Bi

end
section
set_option Elab.async false
set_option linter.all false
set_option autoImplicit false
set_option maxRecDepth 100000
set_option maxHeartbeats 1000000
/-! Bi32: the head's facts: a Hook of our own (methods, property getters, constants, defaults that are tuples), and what it gives of the table. -/
namespace Bi
open PySem L2 PySem.Spec PyProof.Rows
/-! ### values that stand in the head -/
def scV : PV → Option V
  | .non => some .non
  | .bl b => some (.bl b)
  | .int i => some (.int i)
  | .str x => some (.str x)
  | .ty n => some (.ty n)
  | _ => none
def scB (v : PV) (u : Value) : Bool := match scV v with
  | some w => He.relB w u
  | none => false
def scAll : List PV → List Value → Bool
  | [], [] => true
  | v :: vs, u :: us => scB v u && scAll vs us
  | _, _ => false
def tupOK (K : PySem.W.Frag) (xs : List PV) (a : Addr) : Bool := match K.lookup a with
  | some ⟨.type c, none, .seq its _, _⟩ => decide (c = "tuple") && (decide (its.size ≤ sizeLine) && scAll xs its.toList)
  | _ => false
def conB (K : PySem.W.Frag) (v : PV) (u : Value) : Bool := match v with
  | .tup xs => (match u with
    | .ref a => tupOK K xs a
    | _ => false)
  | v => scB v u
def conAll (K : PySem.W.Frag) : List PV → List Value → Bool
  | [], [] => true
  | v :: vs, u :: us => conB K v u && conAll K vs us
  | _, _ => false
section
variable {K : PySem.W.Frag} {mg : Str → Option Value}
theorem sc_ok {v : PV} {u : Value} (h : scB v u = true) : ∃ w, RelV w u ∧ (∀ H ρ, RV K mg H ρ v w) ∧ v.bd 0 = true := by
  unfold scB at h
  cases v with
  | non => exact ⟨_, He.relB_ok h, fun _ _ => .non, by rw [PV.bd]⟩
  | bl b => exact ⟨_, He.relB_ok h, fun _ _ => .bl b, by rw [PV.bd]⟩
  | int b => exact ⟨_, He.relB_ok h, fun _ _ => .int b, by rw [PV.bd]⟩
  | str b => exact ⟨_, He.relB_ok h, fun _ _ => .str b, by rw [PV.bd]⟩
  | ty b => exact ⟨_, He.relB_ok h, fun _ _ => .ty b, by rw [PV.bd]⟩
  | _ => cases h
theorem scAll_ok : ∀ {xs : List PV} {us : List Value}, scAll xs us = true → ∃ ws, Vals ws us ∧ (∀ H ρ, RVs K mg H ρ xs ws) ∧ xs.all (PV.bd 0) = true
  | [], [], _ => ⟨[], .nil, fun _ _ => .nil, rfl⟩
  | [], _ :: _, h => by cases h
  | _ :: _, [], h => by cases h
  | v :: vs, u :: us, h => by
    obtain ⟨h1, h2⟩ := Bool.and_eq_true_iff.mp (show (scB v u && scAll vs us) = true from h)
    obtain ⟨w, a1, a2, a3⟩ := sc_ok (K := K) (mg := mg) h1
    obtain ⟨ws, b1, b2, b3⟩ := scAll_ok (xs := vs) (us := us) h2
    exact ⟨w :: ws, .cons a1 b1, fun H ρ => .cons (a2 H ρ) (b2 H ρ), by rw [List.all_cons, a3, b3]; rfl⟩
theorem con_ok {v : PV} {u : Value} (h : conB K v u = true) : ∃ w, RelV w u ∧ (∀ H ρ, RV K mg H ρ v w) ∧ v.bd 0 = true := by
  cases v with
  | tup xs =>
    cases u with
    | ref a =>
      have h : tupOK K xs a = true := h
      unfold tupOK at h
      split at h
      · rename_i c its n sl e
        obtain ⟨h1, h2⟩ := Bool.and_eq_true_iff.mp h
        obtain ⟨h3, h4⟩ := Bool.and_eq_true_iff.mp h2
        obtain ⟨ws, b1, b2, b3⟩ := scAll_ok (K := K) (mg := mg) h4
        refine ⟨.ref a, rfl, fun H ρ => ?_, by rw [bd_tup]; exact b3⟩
        refine .tup xs a ws (.inr ⟨_, its, n, e, ?_, rfl, of_decide_eq_true h3, b1⟩) (b2 H ρ).length fun i x v e1 e2 => ?_
        · exact congrArg Value.type (of_decide_eq_true h1)
        · obtain ⟨v', e3, r⟩ := paired_some (b2 H ρ) e1
          rw [e2] at e3
          cases e3
          exact r
      · cases h
    | _ => cases h
  | _ => exact sc_ok h
theorem conAll_ok : ∀ {xs : List PV} {us : List Value}, conAll K xs us = true → ∃ ws, Vals ws us ∧ (∀ H ρ, RVs K mg H ρ xs ws) ∧ xs.all (PV.bd 0) = true
  | [], [], _ => ⟨[], .nil, fun _ _ => .nil, rfl⟩
  | [], _ :: _, h => by cases h
  | _ :: _, [], h => by cases h
  | v :: vs, u :: us, h => by
    obtain ⟨h1, h2⟩ := Bool.and_eq_true_iff.mp (show (conB K v u && conAll K vs us) = true from h)
    obtain ⟨w, a1, a2, a3⟩ := con_ok (K := K) (mg := mg) h1
    obtain ⟨ws, b1, b2, b3⟩ := conAll_ok (xs := vs) (us := us) h2
    exact ⟨w :: ws, .cons a1 b1, fun H ρ => .cons (a2 H ρ) (b2 H ρ), by rw [List.all_cons, a3, b3]; rfl⟩
end
/-! ### the defs' objects -/
def prpG (K : PySem.W.Frag) (p : Addr) : Addr := match PySem.W.recIn K p "property" with
  | some (.ref g :: _) => g
  | _ => 0
def adr (K : PySem.W.Frag) : At → Addr
  | .glo x => He.ga K x
  | .mth C m => He.ma K (He.ga K C) m
  | .prp C m => prpG K (He.ma K (He.ga K C) m)
def fnWa (K : PySem.W.Frag) (a : Addr) : He.FnW := match K.lookup a with
  | some ⟨_, _, .func fd, _⟩ => some (fd.name, fd.qualname, fd.params, fd.body, fd.scope, fd.globals, fd.closure, fd.builtins)
  | _ => none
def Row.val (r : Row) : He.FnW := some (r.name, r.qual, r.params, .stmts r.body, r.scope, mainGlobals, [], builtinsNs)
def dflC (K : PySem.W.Frag) (dV : Value) (ds : List PV) : Bool := match ds with
  | [] => (match dV with
    | .none => true
    | _ => false)
  | d :: ds => (match dV with
    | .ref T => (match K.lookup T with
      | some ⟨_, _, .seq its _, _⟩ => conAll K (d :: ds) its.toList
      | _ => false)
    | _ => false)
def Row.ok (K : PySem.W.Frag) (r : Row) : Bool := PySem.W.keepIn K (.ref (adr K r.at_)) && (match K.lookup (adr K r.at_) with
  | some ⟨_, _, .func fd, _⟩ => PySem.W.codeIn K fd.code r.qual && dflC K fd.defaults r.ds
  | _ => false)
theorem dflC_ok {K : PySem.W.Frag} {mg : Str → Option Value} {dV : Value} {ds : List PV} (h : dflC K dV ds = true) : ∃ dvs, DflV K dV dvs ∧ ∀ H ρ, RVs K mg H ρ ds dvs := by
  cases ds with
  | nil =>
    cases dV with
    | none => exact ⟨[], .inl ⟨rfl, rfl⟩, fun _ _ => .nil⟩
    | _ => cases h
  | cons d ds =>
    cases dV with
    | ref T =>
      have h : (match K.lookup T with
        | some ⟨_, _, .seq its _, _⟩ => conAll K (d :: ds) its.toList
        | _ => false) = true := h
      split at h
      · rename_i oc od its n sl e
        obtain ⟨ws, b1, b2, _⟩ := conAll_ok (K := K) (mg := mg) h
        refine ⟨ws, .inr ⟨fun z => ?_, T, _, its.toList, n, rfl, e, by simp, b1⟩, b2⟩
        subst z
        exact nomatch b2 (fun _ => none) (fun _ => 0)
      · cases h
    | _ => cases h
theorem row_ok {X : Cx} {r : Row} (e : fnWa X.K (adr X.K r.at_) = r.val) (c : r.ok X.K = true) : FO X r (adr X.K r.at_) := by
  obtain ⟨kp, c2⟩ := Bool.and_eq_true_iff.mp c
  unfold fnWa at e
  cases q : X.K.lookup (adr X.K r.at_) with
  | none =>
    rw [q] at c2
    cases c2
  | some o =>
    obtain ⟨oc, od, dt, osl⟩ := o
    rw [q] at c2 e
    cases dt with
    | func fd =>
      obtain ⟨n1, n2, n3, n4, n5, n6, n7, n8, n9, n10, n11, n12, n13, n14, n15⟩ := fd
      have e2 : (some (n1, n2, n3, n4, n5, n6, n7, n15) : He.FnW) = some (r.name, r.qual, r.params, .stmts r.body, r.scope, mainGlobals, [], builtinsNs) := e
      simp only [Option.some.injEq, Prod.mk.injEq] at e2
      obtain ⟨h1, h2, h3, h4, h5, h6, h7, h8⟩ := e2
      subst h6 h7 h8
      rw [h1, h2, h3, h4, h5] at q
      have c3 : (PySem.W.codeIn X.K n13 r.qual && dflC X.K n8 r.ds) = true := c2
      obtain ⟨k1, k2⟩ := Bool.and_eq_true_iff.mp c3
      obtain ⟨dvs, k3, k4⟩ := dflC_ok (mg := X.mg) k2
      exact ⟨_, dvs, ⟨⟨oc, od, n8, n9, n10, n11, n12, n13, n14, osl, rfl, q, k1, k3, .inl rfl⟩, kp⟩, k4⟩
    | _ => cases c2
/-! ### all facts -/
def prpB (K : PySem.W.Frag) (C m : Str) : Bool :=
  He.eqO (PySem.W.findIn K (.ref (He.ga K C)) m) (some (some (.ref (He.ma K (He.ga K C) m)))) &&
  (He.eqO (PySem.W.specialIn K (.ref (He.ma K (He.ga K C) m)) "__get__") (some (some (.builtin "property.__get__"))) &&
  (decide (PySem.W.takesIn K (.ref (He.ma K (He.ga K C) m)) = some true) &&
  (match PySem.W.recIn K (He.ma K (He.ga K C) m) "property" with
    | some (.ref g :: _) => true
    | _ => false)))
theorem prp_ok {K : PySem.W.Frag} {C m : Str} (h : prpB K C m = true) : PropOf K (He.ga K C) m (He.ma K (He.ga K C) m) (prpG K (He.ma K (He.ga K C) m)) := by
  obtain ⟨h1, h⟩ := Bool.and_eq_true_iff.mp h
  obtain ⟨h2, h⟩ := Bool.and_eq_true_iff.mp h
  obtain ⟨h3, h4⟩ := Bool.and_eq_true_iff.mp h
  refine ⟨He.eqO_ok h1, He.eqO_ok h2, of_decide_eq_true h3, ?_⟩
  unfold prpG
  split at h4
  · rename_i g rest e
    rw [e]
    exact ⟨rest, rfl⟩
  · cases h4
def cnB (K : PySem.W.Frag) (x : Str) (v : PV) : Bool := match PySem.W.nsIn K mainGlobals x with
  | some (some u) => conB K v u
  | _ => false
def ctB (K : PySem.W.Frag) (x : Str) : Bool := match PySem.W.nsIn K mainGlobals x with
  | some (some (.ref a)) => (match K.lookup a with
    | some ⟨.type c, none, _, _⟩ => decide (c = "tuple")
    | _ => false)
  | _ => false
/-- an own exception class -/
def exB (d : TD) (K : PySem.W.Frag) (p : Str × List Str) : Bool :=
  (He.Fa.glo p.1).ok K && (((He.Fa.free "super").ok K && sysB K) && (decide (PySem.W.nsIn K cStatics "thirdparty.any" = some none) && (excCB K (He.ga K p.1) && ((match PySem.W.findIn K (.ref (He.ga K p.1)) "__init__" with
    | some (some (.ref fI)) => (match iniFB K d.file fI with
      | some D => iniCB K D (He.ga K p.1)
      | none => false)
    | _ => false) &&
  (d.exs.all (fun q => (He.Fa.glo q.1).ok K && decide (PySem.W.kitOne K (.ref (He.ga K p.1)) (.ref (He.ga K q.1)) = some (p.2.contains q.1))) && (decide (PySem.W.kitOne K (.ref (He.ga K p.1)) (.type "ValueError") = some true) &&
  (own6.all (fun n => decide (PySem.W.kitOne K (.ref (He.ga K p.1)) (.type n) = some false)) && ("NoneType" :: own6).all (fun t => decide (PySem.W.kitOne K (.type t) (.ref (He.ga K p.1)) = some false)))))))))
/-- the program's own part of it -/
def PrgOk (P : Program) (d : TD) : Prop := d.exs = [] ∨ (P.main.file = d.file ∧ (P.main.scope.names.lookup ("super" : Str)).isSome = false)
def allB (d : TD) (cl : List Str) (rs : List Row) (K : PySem.W.Frag) : Bool :=
  d.fns.all (fun x => (He.Fa.glo x).ok K) && (d.frs.all (fun x => (He.Fa.free x).ok K) && (cl.all (fun C => (He.Fa.glo C).ok K && (He.Fa.cls C).ok K) && (d.mts.all (fun p => (He.Fa.meth p.1 p.2).ok K) && (d.prs.all (fun p => prpB K p.1 p.2) &&
  (d.ats.all (fun p => (He.Fa.noat p.1 p.2).ok K) && (d.mks.all (fun C => (He.Fa.mkr C).ok K) && (d.cns.all (fun p => cnB K p.1 p.2) && (d.cts.all (fun x => ctB K x) && (rs.all (fun r => r.ok K) && d.exs.all (exB d K))))))))))
def obsP (d : TD) (cl : List Str) (rs : List Row) (K : PySem.W.Frag) : He.AlD := (allB d cl rs K, rs.map fun r => fnWa K (adr K r.at_))
def valP (rs : List Row) : He.AlD := (true, rs.map Row.val)
def SaysP (d : TD) (cl : List Str) (rs : List Row) (K : PySem.W.Frag) : Prop := obsP d cl rs K = valP rs
/-- the cells over which a def closes -/
def clos (g : Addr → Option Obj) (a : Addr) : List Addr := match g a with
  | some ⟨_, _, .func fd, _⟩ => fd.closure.map (·.2)
  | _ => []
def asX (g : Addr → Option Obj) (n : Nat) : List Addr := He.asD g n ++ ((He.asD g n).flatMap (clos g) ++ [sysModules, cStatics])
def obsPG (n : Nat) (d : TD) (cl : List Str) (rs : List Row) (g : Addr → Option Obj) : He.AlD := obsP d cl rs (He.frG g (asX g n))
def hookP (n : Nat) (d : TD) (cl : List Str) (rs : List Row) : PySem.W.Hook where
  α := He.AlD
  obs := fun s => obsPG n d cl rs s.heap.get?
  val := fun _ => valP rs
  says := fun _ h => ∃ K : PySem.W.Frag, K.In h ∧ SaysP d cl rs K
  of := fun _ _ e => ⟨_, He.frG_in, e⟩
  keeps := fun _ _ _ ⟨K, hK, c⟩ k => ⟨K, PySem.W.Frag.In.keeps hK k, c⟩
theorem obsPG_eq {n : Nat} {d : TD} {cl : List Str} {rs : List Row} {g : Addr → Option Obj} {s : Shared} (h : ∀ a, g a = s.heap.get? a) : obsPG n d cl rs g = (hookP n d cl rs).obs s := by
  have e : g = s.heap.get? := funext h
  rw [e] <;> rfl
/-! ### what stands where, checked without the heap -/
def atEq : At → At → Bool
  | .glo x, .glo y => x == y
  | .mth C m, .mth D n => C == D && m == n
  | .prp C m, .prp D n => C == D && m == n
  | _, _ => false
theorem atEq_ok {a b : At} (h : atEq a b = true) : a = b := by
  cases a <;> cases b <;> first | cases h | (unfold atEq at h; simp only [Bool.and_eq_true, beq_iff_eq] at h; first | (rw [h]) | (obtain ⟨h1, h2⟩ := h; rw [h1, h2]))
def atB (rs : List Row) (x : Str) (a : At) : Bool := match rs.find? (fun r => r.key == x) with
  | some r => atEq r.at_ a
  | none => false
theorem atB_ok {rs : List Row} {x : Str} {a : At} (h : atB rs x a = true) : ∃ r, rs.find? (fun r => r.key == x) = some r ∧ r.at_ = a := by
  unfold atB at h
  split at h
  · rename_i r e
    exact ⟨r, e, atEq_ok h⟩
  · cases h
def rowsB (d : TD) (cl : List Str) (rs : List Row) : Bool :=
  d.fns.all (fun x => atB rs x (.glo x)) && (d.mts.all (fun p => cl.contains p.1 && atB rs (qn p.1 p.2) (.mth p.1 p.2)) && (d.prs.all (fun p => cl.contains p.1 && atB rs (qn p.1 p.2) (.prp p.1 p.2)) && (d.ats.all (fun p => cl.contains p.1) &&
  d.mks.all (fun C => cl.contains C && atB rs (qn C (Str.ofString "__init__")) (.mth C (Str.ofString "__init__"))))))
theorem mem_lookup {α : Type} {x : Str} {v : α} : ∀ {l : List (Str × α)}, l.lookup x = some v → (x, v) ∈ l
  | [], h => by cases h
  | (y, w) :: r, h => by
    rw [List.lookup_cons] at h
    cases e : (x == y) with
    | true =>
      rw [e] at h
      cases h
      rw [beq_iff_eq.mp e]
      exact .head _
    | false =>
      rw [e] at h
      exact .tail _ (mem_lookup h)
theorem base_of {X : Cx} {h : Heap} {d : TD} {cl : List Str} {rs : List Row} (KX : X.K.In h) (G : h.Ns mainGlobals X.mg) (c : SaysP d cl rs X.K) (w : rowsB d cl rs = true) (hP : PrgOk X.prog d) : Base X d rs := by
  have c1 : allB d cl rs X.K = true := congrArg (fun z : He.AlD => z.1) c
  have c2 : rs.map (fun r => fnWa X.K (adr X.K r.at_)) = rs.map Row.val := congrArg (fun z : He.AlD => z.2) c
  unfold allB at c1
  simp only [Bool.and_eq_true, List.all_eq_true] at c1
  obtain ⟨a1, a2, a3, a4, a5, a6, a7, a8, a9, a10, a11⟩ := c1
  unfold rowsB at w
  simp only [Bool.and_eq_true, List.all_eq_true] at w
  obtain ⟨w1, w2, w3, w4, w5⟩ := w
  have fo : ∀ r ∈ rs, FO X r (adr X.K r.at_) := fun r hr => row_ok (List.map_inj_left.mp c2 r hr) (a10 r hr)
  have gl : ∀ C, cl.contains C = true → X.mg C = some (.ref (He.ga X.K C)) ∧ Cls X.K (He.ga X.K C) := fun C hC => ⟨He.glo_ok KX G (a3 C (List.contains_iff_mem.mp hC)).1, He.cls_ok (a3 C (List.contains_iff_mem.mp hC)).2⟩
  have fd : ∀ x a, atB rs x a = true → ∃ r, rs.find? (fun r => r.key == x) = some r ∧ FO X r (adr X.K a) := fun x a hx => by
    obtain ⟨r, e, ea⟩ := atB_ok hx
    have := fo r (find_key e).2
    rw [ea] at this
    exact ⟨r, e, this⟩
  refine ⟨fun x hx => ?_, fun C m Ca hx e => ?_, fun C m Ca hx e => ?_, fun C m Ca hx e => ?_, fun C hx => ?_, fun x v hx => ?_, fun x hx => ?_, fun x hx => ?_, fun x anc hx => ?_⟩
  · have hx := List.contains_iff_mem.mp hx
    obtain ⟨r, e, f⟩ := fd x _ (w1 x hx)
    exact ⟨_, r, He.glo_ok KX G (a1 x hx), e, f⟩
  · have hx := List.contains_iff_mem.mp hx
    obtain ⟨g, k⟩ := gl C (w2 _ hx).1
    rw [g] at e
    cases e
    obtain ⟨r, e, f⟩ := fd _ _ (w2 _ hx).2
    exact ⟨k, _, r, He.meth_ok (a4 _ hx), e, f⟩
  · have hx := List.contains_iff_mem.mp hx
    obtain ⟨g, k⟩ := gl C (w3 _ hx).1
    rw [g] at e
    cases e
    obtain ⟨r, e, f⟩ := fd _ _ (w3 _ hx).2
    exact ⟨k, _, _, r, prp_ok (a5 _ hx), e, f⟩
  · have hx := List.contains_iff_mem.mp hx
    obtain ⟨g, k⟩ := gl C (w4 _ hx)
    rw [g] at e
    cases e
    exact ⟨k, He.noat_ok (a6 _ hx)⟩
  · have hx := List.contains_iff_mem.mp hx
    obtain ⟨g, k⟩ := gl C (w5 _ hx).1
    obtain ⟨r, e, f⟩ := fd _ _ (w5 _ hx).2
    exact ⟨_, _, r, g, He.mkr_ok (a7 _ hx), e, f⟩
  · have hx := mem_lookup (show d.cns.lookup x = some v from hx)
    have q : cnB X.K x v = true := a8 _ hx
    unfold cnB at q
    split at q
    · rename_i u e
      obtain ⟨w, b1, b2, b3⟩ := con_ok (K := X.K) (mg := X.mg) q
      exact ⟨w, u, PySem.W.mg_of KX G e, b1, b2, b3⟩
    · cases q
  · have hx := List.contains_iff_mem.mp hx
    exact He.free_ok KX G (a2 x hx)
  · have hx := List.contains_iff_mem.mp hx
    have q : ctB X.K x = true := a9 _ hx
    unfold ctB at q
    split at q
    · rename_i a e
      split at q
      · rename_i cc dt sl e2
        exact ⟨a, _, PySem.W.mg_of KX G e, e2, congrArg Value.type (of_decide_eq_true q), rfl⟩
      · cases q
    · cases q
  · have hx := mem_lookup (show d.exs.lookup x = some anc from hx)
    have hne : d.exs ≠ [] := fun z => by rw [z] at hx; cases hx
    obtain ⟨p1, p2⟩ := hP.resolve_left hne
    have q := a11 _ hx
    unfold exB at q
    simp only [Bool.and_eq_true, decide_eq_true_eq, List.all_eq_true] at q
    obtain ⟨q1, ⟨q2, q0⟩, q3, q4, q5, q6, q7, q8, q9⟩ := q
    split at q5
    · rename_i fI ei
      split at q5
      · rename_i D eD
        obtain ⟨x1, x2⟩ := excC_ok q4
        have ic := iniC_ok q5
        obtain ⟨t1, fd, b1, b2⟩ := iniF_ok (w := X.w) (base := X.base) (CX := L2.CX X.prog X.w) eD p1 (He.free_ok KX G q2) p2 q3
        exact ⟨_, D, fI, fd, He.glo_ok KX G q1, ic, ei, t1, ic.oex.kC, b2, b1, x1, x2, fun y anc2 hy => ⟨_, He.glo_ok KX G (q6 _ (mem_lookup (show d.exs.lookup y = some anc2 from hy))).1, (q6 _ (mem_lookup (show d.exs.lookup y = some anc2 from hy))).2⟩, q7, sys_ok q0, q8, q9⟩
      · cases q5
    · cases q5
end Bi

end
section
set_option Elab.async false
set_option linter.all false
set_option autoImplicit false
set_option maxRecDepth 100000
set_option maxHeartbeats 1000000
/-! Bi33: a row's binding of arguments; the law from its head's run. -/
namespace Bi
open PySem L2 PySem.Spec PyProof.Rows
theorem bi0 {ps : List Str} {x qual : Str} {params : Arguments} {body : List Stmt} {scope : Scope}
    (h : ∀ (kV doc pm : Value) (an : Option Addr) (cdv ct : Value) (us : List Value), us.length = ps.length → bindArgs (PySem.W.fnOf x qual params body scope .none kV doc pm an cdv ct) ⟨us, []⟩ = pure (ps.zip us))
    (K : PySem.W.Frag) (dvs : List V) (f : Addr) (fd : FuncData) (F : FunD K x qual params body scope dvs [] f fd) (hl : dvs.length = 0) (i : Nat) (hi : i ≤ dvs.length) : ∃ es, Vals (dvs.drop i) es ∧ Binds K fd ps es := by
  have e := List.eq_nil_of_length_eq_zero hl
  subst e
  rw [List.drop_nil]
  exact ⟨[], .nil, F.bindsN h⟩
theorem bi1 {ps : List Str} {x qual : Str} {params : Arguments} {body : List Stmt} {scope : Scope} (D : Nat) (hD : 0 < D) (hps : D ≤ ps.length)
    (h : ∀ (i : Nat), i ≤ D → ∀ (T : Addr) (kV doc pm : Value) (an : Option Addr) (cdv ct : Value) (us its : List Value), us.length = ps.length - (D - i) → its.length = D →
      ∃ k, bindArgs (PySem.W.fnOf x qual params body scope (.ref T) kV doc pm an cdv ct) ⟨us, []⟩ = seqItems? (.ref T) >>= k ∧ k (some its.toArray) = pure (ps.zip (us ++ its.drop i)))
    (K : PySem.W.Frag) (dvs : List V) (f : Addr) (fd : FuncData) (F : FunD K x qual params body scope dvs [] f fd) (hl : dvs.length = D) (i : Nat) (hi : i ≤ dvs.length) : ∃ es, Vals (dvs.drop i) es ∧ Binds K fd ps es := by
  have hne : dvs ≠ [] := fun e => by
    rw [e] at hl
    simp at hl
    omega
  refine F.binds1 (ps.length - (D - i)) i hne (by omega) fun T kV doc pm an cdv ct us its h1 h2 => h i (by omega) T kV doc pm an cdv ct us its h1 (h2.trans hl)
end Bi

end
section
set_option Elab.async false
set_option linter.all false
set_option autoImplicit false
set_option maxRecDepth 100000
set_option maxHeartbeats 1000000
/-! Bi34: the law, from what its Lean function gives. -/
namespace Bi
open PySem L2 PySem.Spec PyProof.Rows
def sg0 : Sg := ⟨[], 0⟩
theorem rel0 {K : PySem.W.Frag} {mg : Str → Option Value} {ρ : Nat → Addr} {H : Hp} : Rel K mg ρ sg0 H where
  cell i o h := by
    have h : (none : Option PO) = some o := h
    cases h
  inj i j h := absurd h (Nat.not_lt_zero _)
  wf i o h := by
    have h : (none : Option PO) = some o := h
    cases h
/-- the law, from what its Lean function gives (its script: a list that is only read) -/
theorem holds_of {l : PySem.W.OpenLaw} {n M : Nat} {d : TD} {cl : List Str} {rs : List Row} {rl : Row} {q : Program} {loose : List Str} {XP : (Str → Option Value) → Heap → Prop} {dr : DefRec} {x : Str}
    (hn : l.most = some n) (hn2 : n ≤ sizeLine) (hdf : dr.params.defaults = [])
    (R : ∀ r ∈ rs, ROk d r) (w : rowsB d cl rs = true) (hnm : dr.name = ("law" : Str)) (hf : d.fns.contains ("law" : Str) = true) (hr : rs.find? (fun r => r.key == ("law" : Str)) = some rl) (hps : rl.ps = [x]) (hds : rl.ds = [])
    (hb : ∀ (kV doc pm : Value) (an : Option Addr) (cdv ct : Value) (us : List Value), us.length = 1 → bindArgs (PySem.W.fnOf rl.name rl.qual rl.params rl.body rl.scope .none kV doc pm an cdv ct) ⟨us, []⟩ = pure ([x].zip us))
    (hP : PrgOk l.prog d) (hl : ∀ ns : List Int, ns.length ≤ n → ∃ s', Ph rs 20 "law" [.lsq (ns.map .int)] sg0 = .ok (.bl true) s') :
    PySem.W.WalkO q loose XP (hookP M d cl rs).says l.row.toRowW dr [] (fun f vs => PySem.call f vs) := by
  refine walkG (l := l) (n := n) (k := 40) (x := x) hn hn2 hdf (room_caller.mono (by decide)) ?_
  intro w0 mg fa h Y G hmg0
  obtain ⟨K, KX, c⟩ := Y
  have hmg : mg ("law" : Str) = some (.ref fa) := by
    rw [← hnm]
    exact hmg0
  -- a context of these names
  have B : ∀ base : Heap, Base (CF l.prog w0 K mg base [] "" rl.scope 0 .none callerA [] { heap := h } (fun _ => none) (fun _ _ _ => False)) d rs := fun base => base_of KX G c w hP
  obtain ⟨f, r, e1, e2, e3⟩ := (B h).fn "law" hf
  have ef : f = fa := by
    have e1 : mg ("law" : Str) = some (.ref f) := e1
    rw [hmg] at e1
    cases e1
    rfl
  subst ef
  have er : r = rl := by
    rw [hr] at e2
    exact (Option.some.inj e2).symm
  subst er
  have hm := (find_key e2).2
  obtain ⟨fd, dvs, D, hv⟩ := e3
  have hz : dvs = [] := by
    have z := (hv (fun _ => none) fun _ => 0).length
    rw [hds] at z
    exact List.eq_nil_of_length_eq_zero z.symm
  subst hz
  refine ⟨K, fd, spPhi K mg (Ph rs 20) "law" 1, KX, fun s u => D.bindsA (ps := [x]) hb s [u] rfl, fun H a ns hln hO hS => ?_, fun base _ _ => ?_⟩
  · obtain ⟨s', e⟩ := hl ns hln
    have hrv : RVs K mg H (fun _ => 0) [.lsq (ns.map .int)] [.ref a] := .cons (.lsq _ a (ns.map V.int) hS (by simp) fun i x v h1 h2 => by
      rw [List.getElem?_map] at h1 h2
      cases q : ns[i]? with
      | none => rw [q] at h1; cases h1
      | some z =>
        rw [q] at h1 h2
        cases h1
        cases h2
        exact .int z) .nil
    refine ⟨fun _ => 0, sg0, [.lsq (ns.map .int)], rel0, ?_, hrv, rfl, ?_⟩
    · rw [List.all_cons, bd_lsq]
      simp only [List.all_nil, Bool.and_true, List.all_map]
      exact List.all_eq_true.mpr fun z _ => by show PV.bd _ (.int z) = true; rw [PV.bd]
    · show Post K mg _ _ _ _ _ _ _ (Ph rs 20 "law" [.lsq (ns.map .int)] sg0)
      rw [e]
      intro ρ' H' u _ ⟨_, ru⟩
      cases ru
      rfl
  · have F := facts_all (B base) R 19 (by decide)
    have Rr := R r hm
    have G2 := fnG_ok (P := l.prog) (w := w0) (base := base) (k := 39) D (fn_ok Rr.sc) (φ := Ph rs 19) (φ' := Ph rs 20) (q := "law") (m := r.m) (fun args s h => ⟨Ph_len e2 _ args s h, Ph_at e2 (Ph_len e2 _ args s h) 19 s⟩)
      fun cdv A outer s H E hr => Rr.sim _ _ _ _ (cok_of Rr F f cdv A outer s H E hr)
    rw [hps] at G2
    exact G2
end Bi

end
section
set_option Elab.async false
set_option linter.all false
set_option autoImplicit false
set_option maxRecDepth 100000
set_option maxHeartbeats 1000000
/-! BiI: is True, is not True, of bools. -/
namespace Bi
open PySem L2 PyProof.Rows
def vIsB : PV → PV → Sg → R PV
  | .bl a, .bl b, s => .ok (.bl (a == b)) s
  | _, _, _ => .bad
def vNotB : PV → PV → Sg → R PV
  | .bl a, .bl b, s => .ok (.bl (a != b)) s
  | _, _, _ => .bad
abbrev rIsB : R2 := fun x y H Q => ∃ a b, x = .bl a ∧ y = .bl b ∧ Q (.bl (a == b)) H
abbrev rNotB : R2 := fun x y H Q => ∃ a b, x = .bl a ∧ y = .bl b ∧ Q (.bl (a != b)) H
section
variable {X : Cx} {K : PySem.W.Frag} {mg : Str → Option Value}
theorem op_isB : OpR X (compareOp .Is) rIsB := by
  intro pins s σ H x y v u Q I rx ry h
  obtain ⟨a, b, rfl, rfl, q⟩ := h
  cases (show v = Value.bool a from rx)
  cases (show u = Value.bool b from ry)
  exact wpAny_is_plain rfl (fin_bl I q (by cases a <;> cases b <;> rfl))
theorem op_notB : OpR X (compareOp .IsNot) rNotB := by
  intro pins s σ H x y v u Q I rx ry h
  obtain ⟨a, b, rfl, rfl, q⟩ := h
  cases (show v = Value.bool a from rx)
  cases (show u = Value.bool b from ry)
  exact wpAny_isNot_plain rfl (fin_bl I q (by cases a <;> cases b <;> rfl))
theorem vr_isB : VR2 K mg vIsB rIsB where
  run := fun W ρ s H σ a b x y Q rel ba bb ra rb h => by
    unfold vIsB at h
    split at h
    · cases ra; cases rb
      exact ⟨_, _, rfl, rfl, post_ok h (Nx.refl rel) (by rw [PV.bd]) (.bl _)⟩
    · exact h.elim
  gd := fun a b s => by
    unfold vIsB
    split <;> first | exact Gd.refl s | trivial
theorem vr_notB : VR2 K mg vNotB rNotB where
  run := fun W ρ s H σ a b x y Q rel ba bb ra rb h => by
    unfold vNotB at h
    split at h
    · cases ra; cases rb
      exact ⟨_, _, rfl, rfl, post_ok h (Nx.refl rel) (by rw [PV.bd]) (.bl _)⟩
    · exact h.elim
  gd := fun a b s => by
    unfold vNotB
    split <;> first | exact Gd.refl s | trivial
end
@[simp] theorem vIsB_bl {a b : Bool} {s : Sg} : vIsB (.bl a) (.bl b) s = .ok (.bl (a == b)) s := (rfl)
@[simp] theorem vNotB_bl {a b : Bool} {s : Sg} : vNotB (.bl a) (.bl b) s = .ok (.bl (a != b)) s := (rfl)
end Bi

end
section
set_option Elab.async false
set_option linter.all false
set_option autoImplicit false
set_option maxRecDepth 100000
set_option maxHeartbeats 1000000
/-! BiR: t[::-1] of a tuple. -/
namespace Bi
open PySem PyProof.Rows HT
section
variable {prog : Program} {w : World} {A : Around} {E : Value → Shared → Prop} {s : Shared}
theorem adjust_rev (n : Nat) : Builtin.Slice.sliceAdjust none none (-1) (n : Int) = ((n : Int) - 1, -1) := rfl
theorem places_rev (n : Nat) : Builtin.Slice.slicePlaces ((n : Int) - 1) (-1) (-1) = n := by
  unfold Builtin.Slice.slicePlaces
  rw [if_neg (by decide)]
  by_cases h : n = 0
  · subst h; rfl
  · rw [if_pos (by omega), show (-(-1 : Int)) = 1 from rfl, Int.ediv_one]
    omega
theorem fm_congr {α β : Type} {f g : α → Option β} : ∀ {l : List α}, (∀ x ∈ l, f x = g x) → l.filterMap f = l.filterMap g
  | [], _ => rfl
  | x :: l, h => by
    rw [List.filterMap_cons, List.filterMap_cons, h x (by simp), fm_congr fun y hy => h y (by simp [hy])]
theorem pick_rev (xs : Array Value) : ((List.range xs.size).filterMap fun (m : Nat) => xs[(((xs.size : Int) - 1) + (m : Int) * (-1)).toNat]?).toArray = (xs.toList.reverse).toArray := by
  congr 1
  have e : ((List.range xs.size).filterMap fun (m : Nat) => xs[(((xs.size : Int) - 1) + (m : Int) * (-1)).toNat]?) = (List.range xs.size).filterMap fun m => xs.toList.reverse[m]? := by
    refine fm_congr fun m hm => ?_
    have hm' := List.mem_range.mp hm
    rw [List.getElem?_reverse (by simpa using hm'), show ((((xs.size : Int) - 1) + (m : Int) * (-1)).toNat) = xs.toList.length - 1 - m by rw [Array.length_toList]; omega]
    simp
  rw [e]
  have key : ∀ (l : List Value) (k : Nat), ((List.range k).filterMap fun m => l[m]?) = l.take k := by
    intro l k
    induction k with
    | zero => simp
    | succ k ih =>
      rw [List.range_succ, List.filterMap_append, ih, List.take_add_one]
      cases h : l[k]? <;> simp [h]
  rw [key, List.take_of_length_le (by simp)]
theorem sliceApplied_rev {sl : Addr} {tk : Tok} {n : Nat} {Q : Int × Int × Nat → Shared → Prop} (hs : s.heap.IsSliceOf sl .none .none (.int (-1) tk)) (h : Q ((n : Int) - 1, -1, n) s) : wpAny (model prog w) A (Builtin.Slice.sliceApplied (.ref sl) (pure (n : Int))) Q E s := by
  obtain ⟨ob, h1, h2, h3⟩ := id hs
  unfold Builtin.Slice.sliceApplied Builtin.Slice.sliceFields
  refine wpAny_bind (wpAny_bind (wpAny_field h1 h3 (x := .none) rfl (wpAny_bind (wpAny_field h1 h3 (x := .none) rfl (wpAny_bind (wpAny_field h1 h3 (x := .int (-1) tk) rfl (wpAny_pure ?_)))))))
  refine wpAny_bind (slicePart_int ?_)
  show wpAny _ _ (if ((-1 : Int) == 0) = true then _ else _) _ _ s; rw [if_neg (by decide)]
  refine wpAny_bind (slicePart_none (wpAny_bind (slicePart_none (wpAny_bind (wpAny_pure ?_)))))
  show wpAny _ _ (match Builtin.Slice.sliceAdjust none none (-1) (n : Int) with | (lo, hi) => pure (lo, (-1 : Int), Builtin.Slice.slicePlaces lo hi (-1))) _ _ s
  rw [adjust_rev n]; show wpAny _ _ (pure ((n : Int) - 1, (-1 : Int), Builtin.Slice.slicePlaces ((n : Int) - 1) (-1) (-1))) _ _ s
  rw [places_rev]; exact wpAny_pure h
theorem getItem_tuple_rev {t sl : Addr} {tk : Tok} {items : Array Value} {Q : Value → Shared → Prop} (ht : IsTup s.heap t items) (hs : s.heap.IsSliceOf sl .none .none (.int (-1) tk))
    (h : Q (.ref s.heap.objs.size) { s with heap := s.heap.push { cls := .type "tuple", data := .seq (items.toList.reverse).toArray } }) (hsz : items.size ≤ sizeLine) : wpAny (model prog w) A (getItem (.ref t) (.ref sl)) Q E s := by
  have htake : sizeOk (.seq (items.toList.reverse).toArray) := by
    show ((items.toList.reverse).toArray).size ≤ sizeLine
    simpa using hsz
  obtain ⟨ob, h1, h2, h3⟩ := id hs
  have hT : s.TypeIs (.ref sl) "slice" := ⟨ob, h1, h2⟩
  unfold getItem; try with_reducible refine wpAny_holding ?_
  first | refine wpAny_bind (wpAny_pure ?_) | skip
  refine wpAny_bind (wpAny_sequenceKey ht.typeIs (by decide) (wpAny_bind (wpAny_callSpecial?_slot (name := Str.ofString "__getitem__") ht.typeIs PyProof.Rows.slot_tuple_getitem (wpAny_call_entry PyProof.Rows.slot_tuple_getitem ht.typeIs entry_tuple_getitem ?_ (args_tuple_getitem _ _)))))
  show wpAny _ _ (Builtin.Tuple.tupleItemsOf (.ref t) >>= fun v => _) _ _ s; refine wpAny_bind (tupleItemsOf_ ht (wpAny_bind (wpAny_typeOf hT ?_)))
  rw [if_pos (by decide)]; refine wpAny_bind (sliceApplied_rev hs ?_)
  show wpAny _ _ (if ((((items.size : Int) - 1) == 0 && (-1 : Int) == 1) && items.size == items.size) = true then _ else _) _ _ s
  rw [if_neg (by rw [show ((-1 : Int) == 1) = false from rfl]; simp), pick_rev]
  first
    | exact wpAny_bind (m := Builtin.Tuple.tupleExact _) (wpAny_newObj_type (wpAny_pure ⟨_, rfl, wpAny_pure h⟩) htake)
    | exact wpAny_bind (wpAny_bind (m := Builtin.Tuple.tupleExact _) (wpAny_newObj_type (wpAny_pure ⟨_, rfl, wpAny_pure h⟩) htake))
    | exact wpAny_bind (wpAny_bind (m := Builtin.Tuple.tupleExact _) (wpAny_newObj_type (wpAny_pure (wpAny_pure ⟨_, rfl, wpAny_pure h⟩)) htake))
end
end Bi
namespace Bi
open PySem L2 PyProof.Rows
theorem paired_snoc {α β : Type} {F : α → β → Prop} {x : α} {y : β} (h : F x y) : ∀ {xs : List α} {ys : List β}, Paired F xs ys → Paired F (xs ++ [x]) (ys ++ [y])
  | _, _, .nil => .cons h .nil
  | _, _, .cons a t => .cons a (paired_snoc h t)
theorem paired_rev {α β : Type} {F : α → β → Prop} : ∀ {xs : List α} {ys : List β}, Paired F xs ys → Paired F xs.reverse ys.reverse
  | _, _, .nil => .nil
  | _, _, .cons h t => by rw [List.reverse_cons, List.reverse_cons]; exact paired_snoc h (paired_rev t)
section
variable {X : Cx} {e st : Expr} {te : TE} {ts : TO} {pos p2 : Pos}
def tRev (K : PySem.W.Frag) (te : TE) (ts : TO) : TE := fun σ H Q => te σ H fun x H1 => ts σ H1 fun o H2 => o = some (-1) ∧ ∃ a xs, x = .ref a ∧ SqT K H2 a xs ∧ ∀ p, H2 p = none → Q (.ref p) (upd H2 p (.tup xs.reverse))
theorem pe_rev (he : PE X e te) (hs : L2.PO X (some st) ts) : PE X (.Subscript e (.Slice none none (some st) p2) pos) (tRev X.K te ts) := by
  refine ⟨fun pins s σ H Q I h => ?_⟩
  refine Subscript_ (thn (he.run pins s σ H _ I h) fun v s1 ⟨x, H1, I1, r1, q1⟩ => ?_)
  refine wpAny_Slice ?_
  rw [evalPart_none]
  refine wpAny_pure (wpAny_pure (thn (hs.run pins s1 σ H1 _ I1 q1) fun vst s2 ⟨o, H2, I2, pst, eo, a, xs, ex, hx, q⟩ => ?_))
  subst eo ex
  obtain rfl : v = Value.ref a := r1
  cases pst with
  | int i t =>
    have I4 : L2.Inv X pins σ H2 { s2 with heap := s2.heap.push { cls := .type "slice", data := .fields #[.none, .none, .int (-1) t] } } := I2.kept (t' := s2.toks) fun b ob q => Heap.get?_push_of_some _ q
    obtain ⟨its, rv, ht, hz⟩ := I4.tuple hx
    have hg : wpAny (model X.prog X.w) X.A (getItem (.ref a) (.ref s2.heap.objs.size)) (EP X pins σ Q) X.xe { s2 with heap := s2.heap.push { cls := .type "slice", data := .fields #[.none, .none, .int (-1) t] } } := by
      refine getItem_tuple_rev ht (Heap.IsSliceOf.new ..) ?_ (by rw [List.size_toArray, ← rv.length]; exact hz)
      have hn := I4.hok.fresh (Nat.le_refl (s2.heap.push { cls := .type "slice", data := .fields #[.none, .none, .int (-1) t] }).objs.size)
      refine ⟨.ref _, upd H2 _ (.tup xs.reverse), I4.laid (t' := s2.toks) (fun b o q => Heap.get?_push_of_some _ q) (Nat.le_refl _) ⟨by rw [List.length_reverse]; exact hz, its.reverse, ?_, ⟨_, Heap.get?_push_size _ rfl, rfl, _, rfl⟩⟩, rfl, q _ hn⟩
      exact paired_rev rv
    exact tail_any (ops := [.ref a, .ref s2.heap.objs.size]) ht.typeIs PyProof.Rows.slot_tuple_getitem.lookup hg (by with_unfolding_all rfl)
def vRev : PV → Option Int → Sg → R PV
  | .tup xs, some i, s => if i = -1 then .ok (.tup xs.reverse) s else .bad
  | _, _, _ => .bad
def mRev (m ms : ME) : ME := fun φ p s => (m φ p s).bind fun v s => (mPart (some ms) φ p s).bind fun o s => vRev v o s
theorem vRev_gd (v : PV) (o : Option Int) (s : Sg) : GdR s (vRev v o s) := by
  unfold vRev
  split
  · split
    · exact Gd.refl s
    · trivial
  · trivial
theorem sim_rev {W : WX} {φ : Phi} {m ms : ME} (hv : Sim X W φ m e) (hs : SimP X W φ (some ms) (some st)) : Sim X W φ (mRev m ms) (.Subscript e (.Slice none none (some st) p2) pos) := by
  refine Sim.mk1 (PE.imp (pe_rev hv.pe hs.po) fun σ H Q h => ?_) (fun _ => rfl) fun p s => (hv.gd p s).bind fun v s1 _ => (hs.gd p s1).bind fun o s2 _ => vRev_gd v o s2
  obtain ⟨ρ, p, s, rel, sr, h⟩ := h
  refine tE_seq rel sr h fun v s1 ρ1 H1 u e1 n1 b1 r1 sr1 h1 => ?_
  refine tP_seq n1.rel sr1 h1 fun l s2 ρ2 H2 n2 sr2 h2 => ?_
  unfold vRev at h2
  split at h2
  · rename_i xs i
    split at h2
    · rename_i hi
      subst hi
      have b2 := n2.bl b1
      obtain ⟨a, us, rfl, q, rs⟩ := RV.tup_iff.mp (n2.rv r1 b1)
      rw [bd_tup] at b2
      refine ⟨rfl, a, us, rfl, q, fun p hp => ?_⟩
      have br : (PV.tup xs.reverse).bd s2.g.length = true := by rw [bd_tup, List.all_reverse]; exact b2
      obtain ⟨nx, rv⟩ := rv_tup_new n2.rel hp (by rw [List.all_reverse]; exact b2) (paired_rev rs)
      exact post_ok h2 nx br rv
    · exact h2.elim
  · exact h2.elim
end
end Bi

end
section
set_option Elab.async false
set_option linter.all false
set_option autoImplicit false
set_option maxRecDepth 100000
set_option maxHeartbeats 1000000
/-! BiM: (a, ..) * n; bool(x). -/
namespace Bi
open PySem PySem.Spec PyProof.Rows L2
theorem tuple_mul1 (l : Addr) (items : Array Value) (n : Nat) (dd : Option Addr) (sl : Array (Option Value)) (u : Tok) :
    Meets (Builtin.«tuple.__mul__» ⟨[.ref l, .int 1 u], []⟩) (fun _ R s => s.heap.get? l = some { cls := .type "tuple", dict := dd, data := .seq items n, slots := sl } ∧ R (.ok (.ret (.ref l))) s) :=
  .of_wp fun prog w A R s h => by
    obtain ⟨hp, g, d, tk, os⟩ := s
    obtain ⟨hl, h⟩ := h
    have f1 := AutoSeq1.idx_int
    have c1 : (items.isEmpty || (1 : Int) == 1) = true := by simp
    wp_walk using wpAny_loadPart' hl
    repeat (first
      | (refine wpAny_ite_false (by decide) ?_; wp_walk using wpAny_loadPart' hl)
      | (refine wpAny_ite_true (decide_eq_true (by rw [c1])) ?_; wp_walk using wpAny_loadPart' hl))
    all_goals first | exact ⟨_, rfl, h⟩ | skip
section
variable {X : Cx} {K : PySem.W.Frag} {mg : Str → Option Value}
def rRep1 (K : PySem.W.Frag) : R2 := fun x y H Q => ∃ l xs, x = .ref l ∧ y = .int 1 ∧ SqT K H l xs ∧ Q (.ref l) H
theorem op_rep1 : OpR X (binaryOp .Mult) (rRep1 X.K) := by
  intro pins s σ H x y v u Q I rx ry h
  obtain ⟨l, xs, rfl, rfl, hT, q⟩ := h
  cases rx
  obtain ⟨t, rfl⟩ := ry
  obtain ⟨its, r, ⟨⟨cls, dd, data, sl⟩, ho, hc, n, hd⟩, hs⟩ := I.tuple hT
  simp only at hc hd; subst hc hd
  have hT1 : s.TypeIs (.ref l) "tuple" := ⟨_, ho, rfl⟩
  have m1 := call_meets (E := X.xe) F.slot_tuple_mul (s := s) hT1 F.entry_tuple_mul (F.args_tuple_mul_2 _ _) (tuple_mul1 l its.toArray n dd sl t) (Q := EP X pins σ Q) (A := X.A) (w := X.w) (prog := X.prog) ⟨ho, .ref l, H, I, rfl, q⟩
  have m2 := call_meets (E := X.xe) F.slot_int_rmul (typeIs_int s 1 t) F.entry_int_rmul (F.args_int_rmul_2 _ _) (int_rmul_tuple 1 t l its.toArray n dd sl) (Q := fun v s' => v = Value.notImplemented ∧ s' = s) (A := X.A) (w := X.w) (prog := X.prog) ⟨ho, rfl, rfl⟩
  refine wpAny_binaryOp_repeat_ref (T := "tuple") (U := "int") (by decide) hT1 (fun s' => typeIs_int s' 1 t) noFill_tuple_mul F.fills_int_mul F.slot_int_rmul repeat_tuple F.slot_int_index.lookup (wpAny_mono m2 (fun v s' z => ?_) fun _ _ z => z)
  obtain ⟨rfl, rfl⟩ := z
  exact ⟨rfl, ⟨_, ho, rfl⟩, m1⟩
def vRep : PV → PV → Sg → R PV
  | .tup xs, .int k, s => if k = 1 then .ok (.tup xs) s else if (!xs.isEmpty && decide (2 ≤ k)) && (decide (k ≤ 1000) && decide (xs.length ≤ 1000)) then .ok (.tup (List.replicate k.toNat xs).flatten) s else .bad
  | _, _, _ => .bad
theorem paired_rep {α β : Type} {F : α → β → Prop} {xs : List α} {ys : List β} (h : Paired F xs ys) : ∀ k : Nat, Paired F (List.replicate k xs).flatten (List.replicate k ys).flatten
  | 0 => .nil
  | k + 1 => by
    rw [List.replicate_succ, List.replicate_succ, List.flatten_cons, List.flatten_cons]
    exact paired_append h (paired_rep h k)
theorem all_rep {xs : List PV} {n : Nat} (h : xs.all (PV.bd n) = true) (k : Nat) : ((List.replicate k xs).flatten).all (PV.bd n) = true := by
  rw [List.all_eq_true] at h ⊢
  intro x hx
  obtain ⟨l, hl, hxl⟩ := List.mem_flatten.mp hx
  rw [List.eq_of_mem_replicate hl] at hxl
  exact h x hxl
abbrev rRep (K : PySem.W.Frag) : R2 := fun x y H Q => rRep1 K x y H Q ∨ rRepT K x y H Q
theorem vr_rep : VR2 K mg vRep (rRep K) where
  run := fun W ρ s H σ a b x y Q rel ba bb ra rb h => by
    unfold vRep at h
    split at h
    · rename_i xs k
      cases rb
      split at h
      · rename_i hk
        subst hk
        obtain ⟨l, us, rfl, q, rs⟩ := RV.tup_iff.mp ra
        exact .inl ⟨l, us, rfl, rfl, q, post_ok h (Nx.refl rel) ba (RV.tup_iff.mpr ⟨l, us, rfl, q, rs⟩)⟩
      · split at h
        · rename_i hc
          obtain ⟨l, us, rfl, q, rs⟩ := RV.tup_iff.mp ra
          rw [bd_tup] at ba
          simp only [Bool.and_eq_true, decide_eq_true_eq, Bool.not_eq_true'] at hc
          obtain ⟨⟨c1, c2⟩, c3, c4⟩ := hc
          refine .inr ⟨l, k, us, rfl, rfl, q, ?_, c2, c3, by rw [← rs.length]; exact c4, fun p hp => ?_⟩
          · intro z
            subst z
            cases rs
            cases c1
          · obtain ⟨nx, rv⟩ := rv_tup_new rel hp (all_rep ba k.toNat) (paired_rep rs k.toNat)
            exact post_ok h nx (by rw [bd_tup]; exact all_rep ba _) rv
        · exact h.elim
    · exact h.elim
  gd := fun a b s => by
    unfold vRep
    split
    · split
      · exact Gd.refl s
      · split
        · exact Gd.refl s
        · trivial
    · trivial
theorem opr_rep : OpR X (binaryOp .Mult) (rRep X.K) := OpR.or op_rep1 op_repT
def vBool : List PV → Sg → R PV
  | [.int i], s => .ok (.bl (i != 0)) s
  | [.bl b], s => .ok (.bl b) s
  | _, _ => .bad
theorem vr_boolV : VRL K mg vBool (fun xs H Q => (∃ i, xs = [.int i] ∧ Q (.bl (i != 0)) H) ∨ ∃ k, xs = [.bl k] ∧ Q (.bl k) H) where
  run := fun W ρ s H σ a x Q rel b r h => by
    unfold vBool at h
    split at h
    · cases r with
      | cons r1 t => cases t; cases r1; exact .inl ⟨_, rfl, post_ok h (Nx.refl rel) (by rw [PV.bd]) (.bl _)⟩
    · cases r with
      | cons r1 t => cases t; cases r1; exact .inr ⟨_, rfl, post_ok h (Nx.refl rel) (by rw [PV.bd]) (.bl _)⟩
    · exact h.elim
  gd := fun a s => by
    unfold vBool
    split <;> first | exact Gd.refl s | trivial
end
section
variable {X : Cx} {W : WX} {T : Tab} {φ : Phi} {k : Nat} {C : Ctx} {ml : ML} {e : Expr} {es : List Expr} {pos p : Pos}
theorem b_bool (S : Cok X W T φ k C) (hfr : T.free "bool" = true) (h : C.gl "bool" = true) (ha : SimA X W φ ml (e :: es)) (he : starEach (e :: es) X.env = (false, eval e X.env) :: starEach es X.env := by rfl) (hpl : (backTo pos (starEach es X.env)).any (·.1) = false := by rfl) : Sim X W φ (mB vBool ml) (.Call (.Name "bool" p) (e :: es) [] pos) := r_btt S call_bool1 vr_boolV boot_bool' hfr h ha he hpl
end
end Bi

end
section
set_option Elab.async false
set_option linter.all false
set_option autoImplicit false
set_option maxRecDepth 100000
set_option maxHeartbeats 1000000
/-! BiX5: own exceptions as values: made, asked of their class, of their value. -/
namespace Bi
open PySem L2
theorem boot_ValueError' : bootBuiltins "ValueError" = some (.type "ValueError") := by decide +kernel
def mExc (x : Str) (ml : ML) : ME := fun φ p s => (ml φ p s).bind fun vs s => match vs with
  | [v] => .ok (.exc x v) s
  | _ => .bad
def vIsX (ex : Str → Option (List Str)) : List PV → Sg → R PV
  | [v, .glob D], s => (match v with
    | .exc C _ => (match ex C, ex D with
      | some anc, some _ => .ok (.bl (anc.contains D)) s
      | _, _ => .bad)
    | v => (match ex D, tyName v s with
      | some _, some _ => .ok (.bl false) s
      | _, _ => .bad))
  | [.exc C _, .ty n], s => (match ex C with
    | some _ => if n = "ValueError" then .ok (.bl true) s else if own6.contains n = true then .ok (.bl false) s else .bad
    | none => .bad)
  | xs, s => vIsi xs s
def vXv (ex : Str → Option (List Str)) : PV → Sg → R PV
  | .exc C v, s => if (ex C).isSome = true then .ok v s else .bad
  | _, _ => .bad
section
variable {K : PySem.W.Frag} {mg : Str → Option Value} {H H' : Hp} {ρ : Nat → Addr} {s : Sg}
theorem nx_grow (rel : Rel K mg ρ s H) (k : ∀ b u, H b = some u → H' b = some u) : Nx K mg ρ s H ρ s H' :=
  ⟨⟨fun i o e => CellRel.mono (keep_ext k) (fun _ _ => rfl) (rel.wf i o e) (rel.cell i o e) fun u q => k _ _ q, rel.inj, rel.wf⟩, keep_ext k, fun _ _ => rfl, Nat.le_refl _, fun n kvs e => ⟨e, fun o ws q => k _ _ q⟩⟩
end
section
variable {X : Cx} {W : WX} {T : Tab} {φ : Phi} {k : Nat} {C : Ctx} {m : ME} {ml : ML} {e : Expr} {es : List Expr} {pos p : Pos} {x : Str} {anc : List Str}
theorem r_cls (S : Cok X W T φ k C) (hx : T.exc x = some anc) (h : C.gl x = true) : Sim X W φ (mC (.glob x)) (.Name x pos) := by
  obtain ⟨g, hd, hn⟩ := S.gl h
  obtain ⟨Ca, D, fI, fd, hm, _⟩ := (S.F.exc x anc hx).ex
  exact sim_const (pe_glob (v := .ref Ca) g hm rfl hd) (fun _ => rfl) (fun _ _ => .glob x Ca hm) (by rw [PV.bd])
theorem r_mkx (S : Cok X W T φ k C) (hx : T.exc x = some anc) (h : C.gl x = true) (ha : SimA X W φ ml (e :: es)) (he : starEach (e :: es) X.env = (false, eval e X.env) :: starEach es X.env := by rfl) (hpl : (backTo pos (starEach es X.env)).any (·.1) = false := by rfl) : Sim X W φ (mExc x ml) (.Call (.Name x p) (e :: es) [] pos) := by
  obtain ⟨g, hd, hn⟩ := S.gl h
  obtain ⟨Ca, D, fI, fd, hm, ic, h1, h2, h3, F1, hb, _⟩ := (S.F.exc x anc hx).ex
  refine Sim.mk1 (PE.imp (pe_mkv ic h1 h2 h3 (F1 k) S.rm.rm hb (passes_call S.tk fun _ _ _ _ z => z.elim) g hm ha.pa hd he hpl) fun σ H Q h => ?_) (fun _ => rfl) fun p s => (ha.gd p s).bind fun vs s' _ => ?_
  · obtain ⟨ρ, p, s, rel, sr, h⟩ := h
    refine tA_seq rel sr h fun v s1 ρ1 H1 us e1 n1 b1 r1 sr1 h1 => ?_
    match v, us, r1, b1, h1 with
    | [v], [y], .cons rv .nil, b1, h1 =>
      refine ⟨_, rfl, fun a d na nd ne => ?_⟩
      have kk : ∀ b u, H1 b = some u → upd (upd H1 a (exv a Ca d)) d (.xd [(("value" : Str), y)]) b = some u := fun b u q => by
        rw [upd_ne (ne_of_none q nd), upd_ne (ne_of_none q na)]
        exact q
      have nx := nx_grow n1.rel kk
      have bv : v.bd s1.g.length = true := by simpa using b1
      refine post_ok h1 nx (by rw [PV.bd]; exact bv) (.exc x v a d Ca _ hm (by rw [upd_ne ne.symm, upd_same]) upd_same (nx.rv rv bv))
    | [], _, _, b1, h1 => exact h1.elim
    | _ :: _ :: _, _, _, b1, h1 => exact h1.elim
  · split
    · exact Gd.refl _
    · trivial
theorem vr_isX (F : Facts X T φ k) : VRL X.K X.mg (vIsX T.exc) (fun xs H Q => rIsX X.K xs H Q ∨ rIsi X.K xs H Q) where
  run := fun W ρ s H σ a xs Q rel b r h => by
    unfold vIsX at h
    split at h
    · rename_i v D
      cases r with
      | cons r1 t =>
      cases t with
      | cons r2 t =>
      cases t
      cases r2 with
      | glob _ Da hD =>
      split at h
      · rename_i C w
        split at h
        · rename_i anc anc2 eC eD
          cases r1 with
          | exc _ _ ca d Ca u e1 e2 e3 r =>
          obtain ⟨C', D', fI, fd, hm, ic, h1, h2, h3, F1, hb, x1, x2, x3, x4, x7, x5, x6⟩ := (F.exc C anc eC).ex
          rw [hm] at e1
          cases e1
          obtain ⟨C2, m2, k2⟩ := x3 D anc2 eD
          rw [hD] at m2
          cases m2
          exact .inl ⟨ca, Ca, d, _, .ref Da, .ref Da, _, rfl, e2, e3, x1, fun u r => r, k2, post_ok h (Nx.refl rel) (by rw [PV.bd]) (.bl _)⟩
        · exact h.elim
      · rename_i v hv
        split at h
        · rename_i anc t eD et
          obtain ⟨C', D', fI, fd, hm, ic, h1, h2, h3, F1, hb, x1, x2, x3, x4, x7, x5, x6⟩ := (F.exc D anc eD).ex
          rw [hD] at hm
          cases hm
          refine .inr ⟨_, .ref Da, .type t, .ref Da, false, rfl, .own Da, tyX_of rel et r1, x6 t (tyName_mem et), post_ok h (Nx.refl rel) (by rw [PV.bd]) (.bl _)⟩
        · exact h.elim
    · rename_i C w n
      cases r with
      | cons r1 t =>
      cases t with
      | cons r2 t =>
      cases t
      cases r2
      split at h
      · rename_i anc eC
        cases r1 with
        | exc _ _ ca d Ca u e1 e2 e3 r =>
        obtain ⟨C', D', fI, fd, hm, ic, h1, h2, h3, F1, hb, x1, x2, x3, x4, x7, x5, x6⟩ := (F.exc C anc eC).ex
        rw [hm] at e1
        cases e1
        split at h
        · rename_i en
          subst en
          exact .inl ⟨ca, Ca, d, _, .ty "ValueError", .type "ValueError", true, rfl, e2, e3, x1, fun u r => r, x4, post_ok h (Nx.refl rel) (by rw [PV.bd]) (.bl _)⟩
        · split at h
          · rename_i en
            exact .inl ⟨ca, Ca, d, _, .ty n, .type n, false, rfl, e2, e3, x1, fun u r => r, x5 n (List.contains_iff_mem.mp en), post_ok h (Nx.refl rel) (by rw [PV.bd]) (.bl _)⟩
          · exact h.elim
      · exact h.elim
    · exact .inr (vr_isi.run W ρ s H σ a xs Q rel b r h)
  gd := fun a s => by
    unfold vIsX
    split
    · split
      · split
        · exact Gd.refl s
        · trivial
      · split
        · exact Gd.refl s
        · trivial
    · split
      · split
        · exact Gd.refl s
        · split
          · exact Gd.refl s
          · trivial
      · trivial
    · exact (vr_isi (K := X.K) (mg := X.mg)).gd _ _
theorem call_isXi : CallR X (.builtin "isinstance") (fun xs H Q => rIsX X.K xs H Q ∨ rIsi X.K xs H Q) := fun pins s σ H xs us Q I r h => h.elim (call_isX pins s σ H xs us Q I r) (call_isi pins s σ H xs us Q I r)
theorem b_isX (S : Cok X W T φ k C) (hfr : T.free "isinstance" = true) (h : C.gl "isinstance" = true) (ha : SimA X W φ ml (e :: es)) (he : starEach (e :: es) X.env = (false, eval e X.env) :: starEach es X.env := by rfl) (hpl : (backTo pos (starEach es X.env)).any (·.1) = false := by rfl) : Sim X W φ (mB (vIsX T.exc) ml) (.Call (.Name "isinstance" p) (e :: es) [] pos) :=
  r_blt S call_isXi (vr_isX S.F) boot_isinstance' hfr h ha he hpl
theorem r_xv (S : Cok X W T φ k C) (ho : Sim X W φ m e) (hab : attributeBase e "value" X.env (eval e X.env) = eval e X.env := by rfl) : Sim X W φ (mUn (vXv T.exc) m) (.Attribute e "value" pos) := by
  refine Sim.mk1 (PE.imp (pe_xv ho.pe hab) fun σ H Q h => ?_) (fun _ => rfl) fun p s => (ho.gd p s).bind fun v s' _ => ?_
  · obtain ⟨ρ, p, s, rel, sr, h⟩ := h
    refine tE_seq rel sr h fun v s1 ρ1 H1 u e1 n1 b1 r1 sr1 h1 => ?_
    unfold vXv at h1
    split at h1
    · rename_i x w
      split at h1
      · rename_i hi
        obtain ⟨anc, ea⟩ := Option.isSome_iff_exists.mp hi
        obtain ⟨C', D', fI, fd, hm, ic, q1, q2, q3, F1, hb, x1, x2, x3, x4, x7, x5, x6⟩ := (S.F.exc x anc ea).ex
        cases r1 with
        | exc _ _ ca d Ca u2 a1 a2 a3 r =>
        rw [hm] at a1
        cases a1
        rw [PV.bd] at b1
        exact ⟨ca, C', d, _, u2, rfl, a2, a3, x2, ic.no, by kernel_rfl, post_ok h1 (Nx.refl n1.rel) b1 r⟩
      · exact h1.elim
    · exact h1.elim
  · unfold vXv
    split
    · split
      · exact Gd.refl _
      · trivial
    · trivial
end
end Bi

end
section
set_option Elab.async false
set_option linter.all false
set_option autoImplicit false
set_option maxRecDepth 100000
set_option maxHeartbeats 1000000
/-! BiX6: repr of values with dicts. -/
namespace Bi
open PySem L2 PySem.Spec PyProof.Rows
def keyD : Key → PyData
  | .inl i => .int i
  | .inr x => .str x
/-- the data that a value holds, dicts too, of nesting below n -/
def Dx (K : PySem.W.Frag) (H : Hp) : Nat → V → PyData → Prop
  | 0, _, _ => False
  | n + 1, v, d => match d with
    | .none => v = .non
    | .bool b => v = .bl b
    | .int i => v = .int i
    | .str x => v = .str x
    | .list ds => ∃ a xs, v = .ref a ∧ SqL K H a xs ∧ Paired (Dx K H n) xs ds
    | .tuple ds => ∃ a xs, v = .ref a ∧ SqT K H a xs ∧ Paired (Dx K H n) xs ds
    | .dict D => ∃ a kvs ds, v = .ref a ∧ H a = some (.dK kvs) ∧ Paired (Dx K H n) (kvs.map (·.2)) ds ∧ D = (kvs.map fun p => keyD p.1).zip ds
theorem key_reads {P : Program} {w : World} {h : Heap} (k : Key) (key : Value) (e : (mixKind P w).is k key = true) : Reads h key (keyD k) [] := by
  rcases keyIs_shape (show keyIs k key = true from e) with ⟨i, t, rfl, rfl⟩ | ⟨x, t, rfl, rfl⟩
  · exact Reads.int i t
  · exact Reads.str x t
section
variable {X : Cx} {pins : List (Addr × Obj)} {σ : L2.St} {H : Hp} {s : Shared}
theorem not_sys (I : L2.Inv X pins σ H s) (hk : ∃ o, X.K.lookup sysModules = some o ∧ o.cls = .type "dict") {a : Addr} {o : Obj} (ho : s.heap.get? a = some o) (hc : o.cls = .type "list") : a ≠ sysModules := fun e => by
  obtain ⟨o2, h1, h2⟩ := hk
  have z := I.kIn _ _ h1
  rw [← e, ho] at z
  have z := Option.some.inj z
  rw [← z, hc] at h2
  exact absurd (Value.type.inj h2) (by decide)
theorem reads_all {F : V → PyData → Prop} (ih : ∀ v d u, F v d → RelV v u → ∃ as, Reads s.heap u d as ∧ sysModules ∉ as) {vs : List V} {ds : List PyData} (h : Paired F vs ds) : ∀ {us : List Value}, Vals vs us → ∃ as, ReadsAll s.heap us ds as ∧ sysModules ∉ as := by
  induction h with
  | nil => intro us r; cases r; exact ⟨_, ReadsAll.nil, by simp⟩
  | cons h t k =>
    intro us r
    cases r with
    | cons r1 r2 =>
      obtain ⟨as, q1, n1⟩ := ih _ _ _ h r1
      obtain ⟨bs, q2, n2⟩ := k r2
      exact ⟨_, ReadsAll.cons q1 q2, by simp only [List.mem_append, not_or]; exact ⟨n1, n2⟩⟩
theorem reads_kv {F : V → PyData → Prop} (ih : ∀ v d u, F v d → RelV v u → ∃ as, Reads s.heap u d as ∧ sysModules ∉ as) {vs : List V} {ds : List PyData} (h : Paired F vs ds) : ∀ {us : List (Key × Value)}, Vals vs (us.map (·.2)) → ∃ as, PyProof.V.PairsRead s.heap keyD us ((us.map fun p => keyD p.1).zip ds) as ∧ sysModules ∉ as := by
  induction h with
  | nil =>
    intro us r
    cases us with
    | nil => exact ⟨_, .nil, by simp⟩
    | cons u us => cases r
  | cons h t k =>
    intro us r
    cases us with
    | nil => cases r
    | cons u us =>
      cases r with
      | cons r1 r2 =>
        obtain ⟨as, q1, n1⟩ := ih _ _ _ h r1
        obtain ⟨bs, q2, n2⟩ := k r2
        exact ⟨_, .cons q1 q2, by simp only [List.mem_append, not_or]; exact ⟨n1, n2⟩⟩
theorem kv_snd {kvs : List (Key × V)} {vs : List (Key × Value)} (kv : KV kvs vs) : Vals (kvs.map (·.2)) (vs.map (·.2)) ∧ (kvs.map fun p => keyD p.1) = vs.map fun p => keyD p.1 := by
  unfold KV at kv
  induction kv with
  | nil => exact ⟨.nil, rfl⟩
  | cons h t ih => exact ⟨.cons h.2 ih.1, by rw [List.map_cons, List.map_cons, h.1, ih.2]⟩
theorem Dx.reads (I : L2.Inv X pins σ H s) (hk : ∃ o, X.K.lookup sysModules = some o ∧ o.cls = .type "dict") : ∀ (n : Nat) (v : V) (d : PyData) (u : Value), Dx X.K H n v d → RelV v u → ∃ as, Reads s.heap u d as ∧ sysModules ∉ as
  | 0, _, _, _, h, _ => (show False from h).elim
  | n + 1, v, d, u, h, r => by
    cases d with
    | none => cases (show v = .non from h); cases r; exact ⟨_, Reads.none, by simp⟩
    | bool b => cases (show v = .bl b from h); cases r; exact ⟨_, Reads.bool b, by simp⟩
    | int i => cases (show v = .int i from h); obtain ⟨t, rfl⟩ := r; exact ⟨_, Reads.int i t, by simp⟩
    | str x => cases (show v = .str x from h); obtain ⟨t, rfl⟩ := r; exact ⟨_, Reads.str x t, by simp⟩
    | list ds =>
      obtain ⟨a, xs, rfl, hs, ha⟩ := h
      cases r
      obtain ⟨its, rv, ⟨o, m, ho, hc, z, hd⟩, _⟩ := I.list hs
      obtain ⟨as, hr, hn⟩ := reads_all (Dx.reads I hk n) ha rv
      exact ⟨_, Reads.list ho hc hd hr, by simp only [List.mem_cons, not_or]; exact ⟨fun e => not_sys I hk ho hc e.symm, hn⟩⟩
    | tuple ds =>
      obtain ⟨a, xs, rfl, hs, ha⟩ := h
      cases r
      obtain ⟨its, rv, ⟨o, ho, hc, m, hd⟩, _⟩ := I.tuple hs
      obtain ⟨as, hr, hn⟩ := reads_all (Dx.reads I hk n) ha rv
      exact ⟨_, Reads.tuple ho hc hd hr, hn⟩
    | dict D =>
      obtain ⟨a, kvs, ds, rfl, ha, hd, rfl⟩ := h
      cases r
      obtain ⟨_, hy, vs, kv, dd⟩ := dk_of I.hok ha
      obtain ⟨hm, hks⟩ := kv_snd kv
      obtain ⟨bs, pr, hn⟩ := reads_kv (Dx.reads I hk n) hd hm
      rw [hks]
      exact ⟨_, PyProof.V.reads_dictOf (enc := keyD) key_reads dd pr, by simp only [List.mem_cons, not_or]; exact ⟨fun e => by rw [← e] at hy; simp at hy, hn⟩⟩
def rReprX (K : PySem.W.Frag) : List V → Hp → VK → Prop := fun xs H Q => ∃ n v d, xs = [v] ∧ Dx K H n v d ∧ d.showable = true ∧ d.depth ≤ dD ∧ d.shown.length ≤ sizeLine ∧ Q (.str d.shown) H
theorem callr_reprX (hk : ∃ o, X.K.lookup sysModules = some o ∧ o.cls = .type "dict") (hg : X.A.guards = some []) (hu : X.A.units + 65 < cLine) : CallR X (.builtin "repr") (rReprX X.K) := by
  intro pins s σ H xs us Q I r h
  obtain ⟨n, v, d, rfl, hd, hs, hdp, hz, q⟩ := h
  obtain ⟨u, rfl, ru⟩ := vals1 r
  obtain ⟨as, rd, hn⟩ := Dx.reads I hk n v d u hd ru
  have big : ∀ {a : Addr}, u = .ref a → wpAny (model X.prog X.w) X.A (call (.builtin "repr") [u]) (EP X pins σ Q) X.xe s := fun {a} e => by
    subst e
    exact repr_of_reads' rd hs (fun _ => hn) hg (by unfold dD at hdp; omega) (fun _ _ e => e) (fun h' u tk hk => ⟨.str _, H, I.kept (t' := tk) hk, ⟨_, rfl⟩, q⟩) hz
  cases n with
  | zero => exact (show False from hd).elim
  | succ n =>
  cases d with
  | none => cases (show v = .non from hd); cases ru; exact P.repr_of_none ⟨.str (PyData.none.shown), H, I.tok _, ⟨_, rfl⟩, q⟩
  | bool b => cases (show v = .bl b from hd); cases ru; exact P.repr_of_bool ⟨.str ((PyData.bool b).shown), H, I.tok _, ⟨_, by cases b <;> rfl⟩, q⟩
  | int i => cases (show v = .int i from hd); obtain ⟨t, rfl⟩ := ru; exact P.repr_of_int (of_decide_eq_true hs) ⟨.str ((PyData.int i).shown), H, I.tok _, ⟨_, rfl⟩, q⟩
  | str z => cases (show v = .str z from hd); obtain ⟨t, rfl⟩ := ru; exact P.repr_of_str ⟨.str ((PyData.str z).shown), H, I.tok _, ⟨_, rfl⟩, q⟩ hz
  | list _ => obtain ⟨a, xs, rfl, _⟩ := hd; cases ru; exact big rfl
  | tuple _ => obtain ⟨a, xs, rfl, _⟩ := hd; cases ru; exact big rfl
  | dict _ => obtain ⟨a, xs, _, rfl, _⟩ := hd; cases ru; exact big rfl
end
/-- a value as data, dicts too -/
def toX (s : Sg) : Nat → PV → Option PyData
  | _ + 1, .non => some .none
  | _ + 1, .bl b => some (.bool b)
  | _ + 1, .int i => some (.int i)
  | _ + 1, .str x => some (.str x)
  | k + 1, .tup xs => (xs.mapM (toX s k)).map .tuple
  | k + 1, .ref n => match s.g[n]? with
    | some (.lst xs) => (xs.mapM (toX s k)).map .list
    | some (.dic kvs false) => ((kvs.map (·.2)).mapM (toX s k)).map fun ds => .dict ((kvs.map fun p => keyD p.1).zip ds)
    | _ => none
  | _, _ => none
section
variable {K : PySem.W.Frag} {mg : Str → Option Value} {H : Hp} {ρ : Nat → Addr} {s : Sg}
theorem dxAll_of {k : Nat} (ih : ∀ (v : PV) (u : V) (d : PyData), toX s k v = some d → RV K mg H ρ v u → Dx K H k u d) : ∀ (xs : List PV) (us : List V) (ds : List PyData), xs.mapM (toX s k) = some ds → RVs K mg H ρ xs us → Paired (Dx K H k) us ds
  | [], us, ds, e, r => by
    cases r
    have e' : some ([] : List PyData) = some ds := by simpa using e
    cases e'
    exact .nil
  | x :: xs, us, ds, e, r => by
    obtain ⟨y, ys, e1, e2, rfl⟩ := mapM_cons e
    cases r with
    | cons h t => exact .cons (ih x _ y e1 h) (dxAll_of ih xs _ ys e2 t)
theorem rk_snd {kvs : List (Key × PV)} {ws : List (Key × V)} (rs : RKs K mg H ρ kvs ws) : RVs K mg H ρ (kvs.map (·.2)) (ws.map (·.2)) ∧ (kvs.map fun p => keyD p.1) = ws.map fun p => keyD p.1 := by
  induction rs with
  | nil => exact ⟨.nil, rfl⟩
  | cons h t ih => exact ⟨.cons h.2 ih.1, by rw [List.map_cons, List.map_cons, h.1, ih.2]⟩
theorem dx_of (rel : Rel K mg ρ s H) : ∀ (k : Nat) (v : PV) (u : V) (d : PyData), toX s k v = some d → RV K mg H ρ v u → Dx K H k u d := by
  intro k
  induction k with
  | zero => intro v u d e _; cases v <;> (unfold toX at e; cases e)
  | succ k ih =>
    intro v u d e r
    cases v with
    | non => cases r; unfold toX at e; cases e; rfl
    | bl b => cases r; unfold toX at e; cases e; rfl
    | int b => cases r; unfold toX at e; cases e; rfl
    | str b => cases r; unfold toX at e; cases e; rfl
    | tup xs =>
      unfold toX at e
      obtain ⟨a, vs, rfl, q, rs⟩ := RV.tup_iff.mp r
      cases e2 : xs.mapM (toX s k) with
      | none => rw [e2] at e; cases e
      | some ds => rw [e2] at e; cases e; exact ⟨a, vs, rfl, q, dxAll_of ih xs vs ds e2 rs⟩
    | ref n =>
      unfold toX at e
      cases r
      split at e
      · rename_i xs e1
        obtain ⟨vs, q, rs⟩ := rel.cell n _ e1
        cases e2 : xs.mapM (toX s k) with
        | none => rw [e2] at e; cases e
        | some ds => rw [e2] at e; cases e; exact ⟨_, vs, rfl, .inl (.inl q), dxAll_of ih xs vs ds e2 rs⟩
      · rename_i kvs e1
        obtain ⟨ws, q, rs⟩ := rel.cell n _ e1
        obtain ⟨hr, hks⟩ := rk_snd rs
        cases e2 : (kvs.map (·.2)).mapM (toX s k) with
        | none => rw [e2] at e; cases e
        | some ds =>
          rw [e2] at e
          cases e
          exact ⟨_, ws, ds, rfl, q, dxAll_of ih _ _ ds e2 hr, by rw [hks]⟩
      · cases e
    | _ => unfold toX at e; cases e
end
def vReprX : List PV → Sg → R PV
  | [v], s => (match toX s dD v with
    | some d => if (d.showable && decide (d.depth ≤ dD)) && decide (d.shown.length ≤ sizeLine) then .ok (.str d.shown) s else .bad
    | none => .bad)
  | _, _ => .bad
theorem vr_reprX {K : PySem.W.Frag} {mg : Str → Option Value} : VRL K mg vReprX (rReprX K) where
  run := fun W ρ s H σ a x Q rel b r h => by
    unfold vReprX at h
    split at h
    · rename_i v
      cases r with
      | cons r1 t =>
        cases t
        split at h
        · rename_i d e
          split at h
          · rename_i c
            simp only [Bool.and_eq_true, decide_eq_true_eq] at c
            exact ⟨_, _, d, rfl, dx_of rel _ _ _ _ e r1, c.1.1, c.1.2, c.2, post_ok h (Nx.refl rel) (by rw [PV.bd]) (.str _)⟩
          · exact h.elim
        · exact h.elim
    · exact h.elim
  gd := fun a s => by
    unfold vReprX
    split
    · split
      · split
        · exact Gd.refl s
        · trivial
      · trivial
    · trivial
section
variable {X : Cx} {W : WX} {T : Tab} {φ : Phi} {k : Nat} {C : Ctx} {ml : ML} {e : Expr} {es : List Expr} {pos p : Pos} {x : Str} {anc : List Str}
theorem b_reprX (S : Cok X W T φ k C) (hx : T.exc x = some anc) (hfr : T.free "repr" = true) (h : C.gl "repr" = true) (ha : SimA X W φ ml (e :: es)) (he : starEach (e :: es) X.env = (false, eval e X.env) :: starEach es X.env := by rfl) (hpl : (backTo pos (starEach es X.env)).any (·.1) = false := by rfl) : Sim X W φ (mB vReprX ml) (.Call (.Name "repr" p) (e :: es) [] pos) := by
  obtain ⟨Ca, D, fI, fd, hm, ic, h1, h2, h3, F1, hb, x1, x2, x3, x4, x7, x5, x6⟩ := (S.F.exc x anc hx).ex
  exact r_blt S (callr_reprX x7 S.rm.g (by have := S.un; omega)) vr_reprX boot_repr' hfr h ha he hpl
end
end Bi

end
section
set_option Elab.async false
set_option linter.all false
set_option autoImplicit false
set_option maxRecDepth 100000
set_option maxHeartbeats 4000000
/-! printed by gen.py -/
namespace K00
noncomputable section
abbrev df (x : PySem.Str) (n : Nat) (ds : List Bi.PV) : PySem.Str × Nat × List Bi.PV := (x, n, ds)
open PySem L2 PySem.Spec PyProof.Rows Bi
def top (i : Nat) : Stmt := PySem.Challenge.pw_bidehours_k00_errors_keep_their_values.main.body.getD i (.Pass ⟨0, 0, 0, 0⟩)
def mem (i j : Nat) : Stmt := (C8.clsBody (top i)).getD j (.Pass ⟨0, 0, 0, 0⟩)
def dd : TD where
  fns := ["law", "_law_right", "_law_pot", "_law_places", "_law_of", "_law_made", "_law_odd", "_law_marks", "_law_take"]
  dfs := [df "law" 1 [], df "_law_right" 1 [], df "_law_pot" 2 [], df "_law_places" 2 [], df "_law_of" 2 [], df "_law_made" 1 [], df "_law_odd" 1 [], df "_law_marks" 1 [], df "_law_take" 2 []]
  mts := []
  prs := []
  ats := []
  mks := []
  cns := []
  frs := ["ValueError", "abs", "all", "any", "enumerate", "int", "isinstance", "len", "list", "max", "min", "range", "repr", "super", "zip"]
  cts := []
  exs := [("BideError", ["BideError"]), ("BadBook", ["BadBook", "BideError"]), ("NoJob", ["NoJob", "BideError"]), ("BadHour", ["BadHour", "BideError"]), ("BadNumber", ["BadNumber", "BideError"]), ("BadName", ["BadName", "BideError"]), ("Taken", ["Taken", "BideError"]), ("Full", ["Full", "BideError"]), ("Alone", ["Alone", "BideError"]), ("BadPlan", ["BadPlan", "BideError"]), ("NotFitting", ["NotFitting", "BideError"]), ("BadRow", ["BadRow", "BideError"]), ("OtherBook", ["OtherBook", "BideError"]), ("BadHolds", ["BadHolds", "BideError"]), ("BadCaps", ["BadCaps", "BideError"]), ("Tied", ["Tied", "BideError"]), ("NoPlan", ["NoPlan", "BideError"]), ("BadPlace", ["BadPlace", "BideError"]), ("ManyHands", ["ManyHands", "BideError"]), ("BadOffers", ["BadOffers", "BideError"]), ("Contrary", ["Contrary", "BideError"]), ("Begun", ["Begun", "BideError"]), ("Early", ["Early", "BideError"]), ("NotLater", ["NotLater", "BideError"]), ("NothingToUndo", ["NothingToUndo", "BideError"]), ("NothingToRedo", ["NothingToRedo", "BideError"]), ("NoTrial", ["NoTrial", "BideError"]), ("BadJournal", ["BadJournal", "BideError"]), ("BadLine", ["BadLine", "BideError"])]
  file := PySem.Challenge.pw_bidehours_k00_errors_keep_their_values.main.file
abbrev tb : Tab := dd.tab
abbrev mAttrT (f : Str) : ME → ME := mAttr tb f
abbrev mMethT (j : Nat) : Str → ME → ML → ME := mMethD dd j
abbrev mSetAtT (f : Str) : ME → ME → MS := mSetAt tb f
def st_law : Stmt := top 39
def N_law : List Str := ["_law_script", "_law_place"]
def m_law : MS :=
 (mRet (mB vAll (mCons (mLc (mI vIter (mCall "_law_places" [] (mCons (mVar 0) (mCons (mC (.int 4)) mNil)))) [1] (gN 1) (mC (.bl true)) (gcE (mCall "_law_right" [] (mCons (mCall "_law_pot" [] (mCons (mVar 0) (mCons (mVar 1) mNil))) mNil)))) mNil)))
abbrev C_law : Bi.Ctx := ⟨N_law, defScope st_law, fun _ => true⟩
theorem s_law {X : Cx} {W : WX} {φ : Phi} {k : Nat} (S : Cok X W tb φ k C_law) : SimSs X W φ m_law (defBody st_law) :=
 (simss_one (sims_ret (b_all S (by decide +kernel) (by decide +kernel) (sima_cons (r_lc S [("_law_place", 1)] (by decide +kernel) (by decide +kernel) (sim_seqI (r_call S (by decide +kernel) (j := 2) rfl (by decide +kernel) (sima_cons (r_var S (i := 0) (by decide +kernel)) (sima_cons r_int sima_nil rfl) rfl))) (fun _ _ _ _ _ S' => ⟨(g_name S' (i := 1) (by decide +kernel)), simts_nil, (sim_gc (r_call S' (by decide +kernel) (j := 1) rfl (by decide +kernel) (sima_cons (r_call S' (by decide +kernel) (j := 2) rfl (by decide +kernel) (sima_cons (r_var S' (i := 0) (by decide +kernel)) (sima_cons (r_var S' (i := 1) (by decide +kernel)) sima_nil rfl) rfl)) sima_nil rfl)))⟩)) sima_nil rfl))))
def st__law_right : Stmt := top 38
def N__law_right : List Str := ["_law_pot_here", "_law_value", "_law_made_here", "_law_spot", "_law_error", "_law_base", "_law_place"]
def m__law_right : MS :=
 (mSeq (mSet 1 (gcE (mCall "_law_of" [] (mCons (mVar 0) (mCons (mLst (mCons (mCall "_law_odd" [] (mCons (mVar 0) mNil)) (mCons (mTup (mCons (mCall "_law_odd" [] (mCons (mVar 0) mNil)) (mCons (mC (.int 3)) mNil))) (mCons (mLst (mCons (mCall "_law_odd" [] (mCons (mVar 0) mNil)) mNil)) (mCons (mDisp [((mC (.str "a")), (mCall "_law_odd" [] (mCons (mVar 0) mNil)))]) mNil))))) mNil)))))
 (mSeq (mSet 2 (mCall "_law_made" [] (mCons (mVar 1) mNil)))
 (mSeq (mFor (mIL vEnum1 (mCons (mVar 2) mNil)) (gT 2 (gsC (gN 3) (gsC (gN 4) gsN)))
 (gcS (mSeq (mIfS (mOr (mNot (mB (vIsX tb.exc) (mCons (mVar 4) (mCons (mC (.glob "BideError")) mNil)))) (mNot (mB (vIsX tb.exc) (mCons (mVar 4) (mCons (mC (.ty "ValueError")) mNil)))))
 (mRet (mC (.bl false)))
 mNx)
 (mIfS (gcE (mOr (mBin vNe (mB vReprX (mCons (mUn (vXv tb.exc) (mVar 4)) mNil)) (mB vReprX (mCons (mVar 1) mNil))) (mBin vNe (mCall "_law_marks" [] (mCons (mVar 4) mNil)) (mLc (mRng1 (mCons (mLenT tb (mCons (mVar 2) mNil)) mNil)) [6] (gN 6) (mC (.bl true)) (mBin vEq (mVar 3) (mVar 6))))))
 (mRet (mC (.bl false)))
 mNx))))
 (mSeq (mSet 5 (mExc "BideError" (mCons (mVar 1) mNil)))
 (mRet (mAnd (mBin vEq (mB vReprX (mCons (mUn (vXv tb.exc) (mVar 5)) mNil)) (mB vReprX (mCons (mVar 1) mNil))) (mAnd (mB (vIsX tb.exc) (mCons (mVar 5) (mCons (mC (.ty "ValueError")) mNil))) (mNot (mB vAny (mCons (mCall "_law_marks" [] (mCons (mVar 5) mNil)) mNil))))))))))
abbrev C__law_right : Bi.Ctx := ⟨N__law_right, defScope st__law_right, fun _ => true⟩
theorem s__law_right {X : Cx} {W : WX} {φ : Phi} {k : Nat} (S : Cok X W tb φ k C__law_right) : SimSs X W φ m__law_right (defBody st__law_right) :=
 (simss_cons (r_set S (i := 1) (by decide +kernel) (sim_gc (r_call S (by decide +kernel) (j := 2) rfl (by decide +kernel) (sima_cons (r_var S (i := 0) (by decide +kernel)) (sima_cons (sim_lst (sima_cons (r_call S (by decide +kernel) (j := 1) rfl (by decide +kernel) (sima_cons (r_var S (i := 0) (by decide +kernel)) sima_nil rfl)) (sima_cons (sim_tup (sima_cons (r_call S (by decide +kernel) (j := 1) rfl (by decide +kernel) (sima_cons (r_var S (i := 0) (by decide +kernel)) sima_nil rfl)) (sima_cons r_int sima_nil rfl) rfl)) (sima_cons (sim_lst (sima_cons (r_call S (by decide +kernel) (j := 1) rfl (by decide +kernel) (sima_cons (r_var S (i := 0) (by decide +kernel)) sima_nil rfl)) sima_nil rfl)) (sima_cons (sim_disp (SimPs.cons r_str (r_call S (by decide +kernel) (j := 1) rfl (by decide +kernel) (sima_cons (r_var S (i := 0) (by decide +kernel)) sima_nil rfl)) SimPs.nil) (by simp) (by simp)) sima_nil rfl) rfl) rfl) rfl)) sima_nil rfl) rfl))))
 (simss_cons (r_set S (i := 2) (by decide +kernel) (r_call S (by decide +kernel) (j := 1) rfl (by decide +kernel) (sima_cons (r_var S (i := 1) (by decide +kernel)) sima_nil rfl)))
 (simss_cons (r_for S (i_enum1 S (by decide +kernel) (by decide +kernel) (sima_cons (r_var S (i := 2) (by decide +kernel)) sima_nil rfl)) (g_tup S (n := 2) (g_cons (g_name S (i := 3) (by decide +kernel)) (g_cons (g_name S (i := 4) (by decide +kernel)) simgs_nil)))
 (simss_gc (simss_cons (sims_if (SimB.sim (simb_or (sim_not (b_isX S (by decide +kernel) (by decide +kernel) (sima_cons (r_var S (i := 4) (by decide +kernel)) (sima_cons (r_cls S (anc := ["BideError"]) (by decide +kernel) (by decide +kernel)) sima_nil rfl) rfl))) (simb_or1 (sim_not (b_isX S (by decide +kernel) (by decide +kernel) (sima_cons (r_var S (i := 4) (by decide +kernel)) (sima_cons (r_ty S (by decide +kernel) boot_ValueError' (by decide +kernel)) sima_nil rfl) rfl))))))
 (simss_one (sims_ret r_bl))
 simss_nil)
 (simss_one (sims_if (sim_gc (SimB.sim (simb_or (r_ne S (b_reprX S (x := "BideError") (anc := ["BideError"]) (by decide +kernel) (by decide +kernel) (by decide +kernel) (sima_cons (r_xv S (r_var S (i := 4) (by decide +kernel))) sima_nil rfl)) (b_reprX S (x := "BideError") (anc := ["BideError"]) (by decide +kernel) (by decide +kernel) (by decide +kernel) (sima_cons (r_var S (i := 1) (by decide +kernel)) sima_nil rfl))) (simb_or1 (r_ne S (r_call S (by decide +kernel) (j := 1) rfl (by decide +kernel) (sima_cons (r_var S (i := 4) (by decide +kernel)) sima_nil rfl)) (r_lc S [("_law_place", 6)] (by decide +kernel) (by decide +kernel) (i_rng1 S (by decide +kernel) (by decide +kernel) (sima_cons (b_lenT S (has_dfl (by decide +kernel)) (by decide +kernel) (by decide +kernel) (sima_cons (r_var S (i := 2) (by decide +kernel)) sima_nil rfl)) sima_nil rfl)) (fun _ _ _ _ _ S' => ⟨(g_name S' (i := 6) (by decide +kernel)), simts_nil, (r_eq S' (r_var S' (i := 3) (by decide +kernel)) (r_var S' (i := 6) (by decide +kernel)))⟩)))))))
 (simss_one (sims_ret r_bl))
 simss_nil)))))
 (simss_cons (r_set S (i := 5) (by decide +kernel) (r_mkx S (anc := ["BideError"]) (by decide +kernel) (by decide +kernel) (sima_cons (r_var S (i := 1) (by decide +kernel)) sima_nil rfl)))
 (simss_one (sims_ret (SimB.sim (simb_and (r_eq S (b_reprX S (x := "BideError") (anc := ["BideError"]) (by decide +kernel) (by decide +kernel) (by decide +kernel) (sima_cons (r_xv S (r_var S (i := 5) (by decide +kernel))) sima_nil rfl)) (b_reprX S (x := "BideError") (anc := ["BideError"]) (by decide +kernel) (by decide +kernel) (by decide +kernel) (sima_cons (r_var S (i := 1) (by decide +kernel)) sima_nil rfl))) (simb_and (b_isX S (by decide +kernel) (by decide +kernel) (sima_cons (r_var S (i := 5) (by decide +kernel)) (sima_cons (r_ty S (by decide +kernel) boot_ValueError' (by decide +kernel)) sima_nil rfl) rfl)) (simb_and1 (sim_not (b_any S (by decide +kernel) (by decide +kernel) (sima_cons (r_call S (by decide +kernel) (j := 1) rfl (by decide +kernel) (sima_cons (r_var S (i := 5) (by decide +kernel)) sima_nil rfl)) sima_nil rfl)))))))))))))
def st__law_pot : Stmt := top 31
def N__law_pot : List Str := ["_law_script", "_law_k", "_law_cell", "_law_own", "_law_small"]
def m__law_pot : MS :=
 (mSeq (mSet 2 (mIf (mBin vLt (mVar 1) (mLenT tb (mCons (mVar 0) mNil))) (mBin vIx (mVar 0) (mVar 1)) (mBin vAdd (mBin vMul (mC (.int 217)) (mVar 1)) (mC (.int 131)))))
 (mSeq (mSet 3 (mBin vMul (mBin vMod (mB vInt (mCons (mB vAbs (mCons (mVar 2) mNil)) mNil)) (mBin vPow (mBin vPow (mC (.int 10)) (mC (.int 60))) (mC (.int 5)))) (mB vInt (mCons (mBin vGe (mB vAbs (mCons (mVar 2) mNil)) (mBin vPow (mC (.int 10)) (mC (.int 18)))) mNil))))
 (mSeq (mSet 4 (mBin vMod (mB vInt (mCons (mVar 2) mNil)) (mC (.int 2305843009213693951))))
 (mRet (mLst (mCons (mVar 3) (mCons (mBin vMod (mB vInt (mCons (mBin vAdd (mBin vAdd (mBin vMul (mVar 4) (mC (.int 80681))) (mBin vMul (mBin vMul (mC (.int 8329)) (mVar 1)) (mVar 1))) (mC (.int 113))) mNil)) (mC (.int 2305843009213693921))) (mCons (mC (.int 0)) mNil))))))))
abbrev C__law_pot : Bi.Ctx := ⟨N__law_pot, defScope st__law_pot, fun _ => true⟩
theorem s__law_pot {X : Cx} {W : WX} {φ : Phi} {k : Nat} (S : Cok X W tb φ k C__law_pot) : SimSs X W φ m__law_pot (defBody st__law_pot) :=
 (simss_cons (r_set S (i := 2) (by decide +kernel) (sim_if (sim_cmp op_lt vr_lt (r_var S (i := 1) (by decide +kernel)) (b_lenT S (has_dfl (by decide +kernel)) (by decide +kernel) (by decide +kernel) (sima_cons (r_var S (i := 0) (by decide +kernel)) sima_nil rfl)) rfl) (r_ix S (r_var S (i := 0) (by decide +kernel)) (r_var S (i := 1) (by decide +kernel))) (sim_bin opr_add vr_add (sim_bin op_mul vr_mul r_int (r_var S (i := 1) (by decide +kernel))) r_int)))
 (simss_cons (r_set S (i := 3) (by decide +kernel) (sim_bin op_mul vr_mul (sim_bin op_mod vr_mod (b_int S (by decide +kernel) (by decide +kernel) (sima_cons (b_abs S (by decide +kernel) (by decide +kernel) (sima_cons (r_var S (i := 2) (by decide +kernel)) sima_nil rfl)) sima_nil rfl)) (sim_bin op_powW vr_pow (sim_bin op_powW vr_pow r_int r_int) r_int)) (b_int S (by decide +kernel) (by decide +kernel) (sima_cons (sim_cmp op_ge vr_ge (b_abs S (by decide +kernel) (by decide +kernel) (sima_cons (r_var S (i := 2) (by decide +kernel)) sima_nil rfl)) (sim_bin op_powW vr_pow r_int r_int) rfl) sima_nil rfl))))
 (simss_cons (r_set S (i := 4) (by decide +kernel) (sim_bin op_mod vr_mod (b_int S (by decide +kernel) (by decide +kernel) (sima_cons (r_var S (i := 2) (by decide +kernel)) sima_nil rfl)) r_int))
 (simss_one (sims_ret (sim_lst (sima_cons (r_var S (i := 3) (by decide +kernel)) (sima_cons (sim_bin op_mod vr_mod (b_int S (by decide +kernel) (by decide +kernel) (sima_cons (sim_bin opr_add vr_add (sim_bin opr_add vr_add (sim_bin op_mul vr_mul (r_var S (i := 4) (by decide +kernel)) r_int) (sim_bin op_mul vr_mul (sim_bin op_mul vr_mul r_int (r_var S (i := 1) (by decide +kernel))) (r_var S (i := 1) (by decide +kernel)))) r_int) sima_nil rfl)) r_int) (sima_cons r_int sima_nil rfl) rfl) rfl)))))))
def st__law_places : Stmt := top 34
def N__law_places : List Str := ["_law_script", "_law_most"]
def m__law_places : MS :=
 (mRet (mListRg1 (mB vMax (mCons (mC (.int 1)) (mCons (mB vMin (mCons (mVar 1) (mCons (mLenT tb (mCons (mVar 0) mNil)) mNil))) mNil)))))
abbrev C__law_places : Bi.Ctx := ⟨N__law_places, defScope st__law_places, fun _ => true⟩
theorem s__law_places {X : Cx} {W : WX} {φ : Phi} {k : Nat} (S : Cok X W tb φ k C__law_places) : SimSs X W φ m__law_places (defBody st__law_places) :=
 (simss_one (sims_ret (b_listRg1 S (by decide +kernel) (by decide +kernel) (by decide +kernel) (by decide +kernel) (b_max S (by decide +kernel) (by decide +kernel) (sima_cons r_int (sima_cons (b_min S (by decide +kernel) (by decide +kernel) (sima_cons (r_var S (i := 1) (by decide +kernel)) (sima_cons (b_lenT S (has_dfl (by decide +kernel)) (by decide +kernel) (by decide +kernel) (sima_cons (r_var S (i := 0) (by decide +kernel)) sima_nil rfl)) sima_nil rfl) rfl)) sima_nil rfl) rfl)))))
def st__law_of : Stmt := top 33
def N__law_of : List Str := ["_law_pot_here", "_law_some"]
def m__law_of : MS :=
 (mRet (mBin vIx (mVar 1) (mCall "_law_take" [] (mCons (mVar 0) (mCons (mLenT tb (mCons (mVar 1) mNil)) mNil)))))
abbrev C__law_of : Bi.Ctx := ⟨N__law_of, defScope st__law_of, fun _ => true⟩
theorem s__law_of {X : Cx} {W : WX} {φ : Phi} {k : Nat} (S : Cok X W tb φ k C__law_of) : SimSs X W φ m__law_of (defBody st__law_of) :=
 (simss_one (sims_ret (r_ix S (r_var S (i := 1) (by decide +kernel)) (r_call S (by decide +kernel) (j := 2) rfl (by decide +kernel) (sima_cons (r_var S (i := 0) (by decide +kernel)) (sima_cons (b_lenT S (has_dfl (by decide +kernel)) (by decide +kernel) (by decide +kernel) (sima_cons (r_var S (i := 1) (by decide +kernel)) sima_nil rfl)) sima_nil rfl) rfl)))))
def st__law_made : Stmt := top 36
def N__law_made : List Str := ["_law_value", "_law_found"]
def m__law_made : MS :=
 (mSeq (mSet 1 (mLst (mCons (mExc "BadBook" (mCons (mVar 0) mNil)) (mCons (mExc "NoJob" (mCons (mVar 0) mNil)) (mCons (mExc "BadHour" (mCons (mVar 0) mNil)) mNil)))))
 (mSeq (gcS (mExp (mBM kdLst vExtend (mVar 1) (mCons (mLst (mCons (mExc "BadNumber" (mCons (mVar 0) mNil)) (mCons (mExc "BadName" (mCons (mVar 0) mNil)) (mCons (mExc "Taken" (mCons (mVar 0) mNil)) mNil)))) mNil))))
 (mSeq (gcS (mExp (mBM kdLst vExtend (mVar 1) (mCons (mLst (mCons (mExc "Full" (mCons (mVar 0) mNil)) (mCons (mExc "Alone" (mCons (mVar 0) mNil)) (mCons (mExc "BadPlan" (mCons (mVar 0) mNil)) mNil)))) mNil))))
 (mSeq (gcS (mExp (mBM kdLst vExtend (mVar 1) (mCons (mLst (mCons (mExc "NotFitting" (mCons (mVar 0) mNil)) (mCons (mExc "BadRow" (mCons (mVar 0) mNil)) (mCons (mExc "OtherBook" (mCons (mVar 0) mNil)) mNil)))) mNil))))
 (mSeq (gcS (mExp (mBM kdLst vExtend (mVar 1) (mCons (mLst (mCons (mExc "BadHolds" (mCons (mVar 0) mNil)) (mCons (mExc "BadCaps" (mCons (mVar 0) mNil)) (mCons (mExc "Tied" (mCons (mVar 0) mNil)) mNil)))) mNil))))
 (mSeq (gcS (mExp (mBM kdLst vExtend (mVar 1) (mCons (mLst (mCons (mExc "NoPlan" (mCons (mVar 0) mNil)) (mCons (mExc "BadPlace" (mCons (mVar 0) mNil)) (mCons (mExc "ManyHands" (mCons (mVar 0) mNil)) mNil)))) mNil))))
 (mSeq (gcS (mExp (mBM kdLst vExtend (mVar 1) (mCons (mLst (mCons (mExc "BadOffers" (mCons (mVar 0) mNil)) (mCons (mExc "Contrary" (mCons (mVar 0) mNil)) (mCons (mExc "Begun" (mCons (mVar 0) mNil)) mNil)))) mNil))))
 (mSeq (gcS (mExp (mBM kdLst vExtend (mVar 1) (mCons (mLst (mCons (mExc "Early" (mCons (mVar 0) mNil)) (mCons (mExc "NotLater" (mCons (mVar 0) mNil)) (mCons (mExc "NothingToUndo" (mCons (mVar 0) mNil)) mNil)))) mNil))))
 (mSeq (gcS (mExp (mBM kdLst vExtend (mVar 1) (mCons (mLst (mCons (mExc "NothingToRedo" (mCons (mVar 0) mNil)) (mCons (mExc "NoTrial" (mCons (mVar 0) mNil)) (mCons (mExc "BadJournal" (mCons (mVar 0) mNil)) mNil)))) mNil))))
 (mSeq (gcS (mExp (mBM kdLst vExtend (mVar 1) (mCons (mLst (mCons (mExc "BadLine" (mCons (mVar 0) mNil)) mNil)) mNil))))
 (mRet (mVar 1))))))))))))
abbrev C__law_made : Bi.Ctx := ⟨N__law_made, defScope st__law_made, fun _ => true⟩
theorem s__law_made {X : Cx} {W : WX} {φ : Phi} {k : Nat} (S : Cok X W tb φ k C__law_made) : SimSs X W φ m__law_made (defBody st__law_made) :=
 (simss_cons (r_set S (i := 1) (by decide +kernel) (sim_lst (sima_cons (r_mkx S (anc := ["BadBook", "BideError"]) (by decide +kernel) (by decide +kernel) (sima_cons (r_var S (i := 0) (by decide +kernel)) sima_nil rfl)) (sima_cons (r_mkx S (anc := ["NoJob", "BideError"]) (by decide +kernel) (by decide +kernel) (sima_cons (r_var S (i := 0) (by decide +kernel)) sima_nil rfl)) (sima_cons (r_mkx S (anc := ["BadHour", "BideError"]) (by decide +kernel) (by decide +kernel) (sima_cons (r_var S (i := 0) (by decide +kernel)) sima_nil rfl)) sima_nil rfl) rfl) rfl)))
 (simss_cons (sims_gc (r_expr (b_list_extend S (r_var S (i := 1) (by decide +kernel)) (sima_cons (sim_lst (sima_cons (r_mkx S (anc := ["BadNumber", "BideError"]) (by decide +kernel) (by decide +kernel) (sima_cons (r_var S (i := 0) (by decide +kernel)) sima_nil rfl)) (sima_cons (r_mkx S (anc := ["BadName", "BideError"]) (by decide +kernel) (by decide +kernel) (sima_cons (r_var S (i := 0) (by decide +kernel)) sima_nil rfl)) (sima_cons (r_mkx S (anc := ["Taken", "BideError"]) (by decide +kernel) (by decide +kernel) (sima_cons (r_var S (i := 0) (by decide +kernel)) sima_nil rfl)) sima_nil rfl) rfl) rfl)) sima_nil rfl))))
 (simss_cons (sims_gc (r_expr (b_list_extend S (r_var S (i := 1) (by decide +kernel)) (sima_cons (sim_lst (sima_cons (r_mkx S (anc := ["Full", "BideError"]) (by decide +kernel) (by decide +kernel) (sima_cons (r_var S (i := 0) (by decide +kernel)) sima_nil rfl)) (sima_cons (r_mkx S (anc := ["Alone", "BideError"]) (by decide +kernel) (by decide +kernel) (sima_cons (r_var S (i := 0) (by decide +kernel)) sima_nil rfl)) (sima_cons (r_mkx S (anc := ["BadPlan", "BideError"]) (by decide +kernel) (by decide +kernel) (sima_cons (r_var S (i := 0) (by decide +kernel)) sima_nil rfl)) sima_nil rfl) rfl) rfl)) sima_nil rfl))))
 (simss_cons (sims_gc (r_expr (b_list_extend S (r_var S (i := 1) (by decide +kernel)) (sima_cons (sim_lst (sima_cons (r_mkx S (anc := ["NotFitting", "BideError"]) (by decide +kernel) (by decide +kernel) (sima_cons (r_var S (i := 0) (by decide +kernel)) sima_nil rfl)) (sima_cons (r_mkx S (anc := ["BadRow", "BideError"]) (by decide +kernel) (by decide +kernel) (sima_cons (r_var S (i := 0) (by decide +kernel)) sima_nil rfl)) (sima_cons (r_mkx S (anc := ["OtherBook", "BideError"]) (by decide +kernel) (by decide +kernel) (sima_cons (r_var S (i := 0) (by decide +kernel)) sima_nil rfl)) sima_nil rfl) rfl) rfl)) sima_nil rfl))))
 (simss_cons (sims_gc (r_expr (b_list_extend S (r_var S (i := 1) (by decide +kernel)) (sima_cons (sim_lst (sima_cons (r_mkx S (anc := ["BadHolds", "BideError"]) (by decide +kernel) (by decide +kernel) (sima_cons (r_var S (i := 0) (by decide +kernel)) sima_nil rfl)) (sima_cons (r_mkx S (anc := ["BadCaps", "BideError"]) (by decide +kernel) (by decide +kernel) (sima_cons (r_var S (i := 0) (by decide +kernel)) sima_nil rfl)) (sima_cons (r_mkx S (anc := ["Tied", "BideError"]) (by decide +kernel) (by decide +kernel) (sima_cons (r_var S (i := 0) (by decide +kernel)) sima_nil rfl)) sima_nil rfl) rfl) rfl)) sima_nil rfl))))
 (simss_cons (sims_gc (r_expr (b_list_extend S (r_var S (i := 1) (by decide +kernel)) (sima_cons (sim_lst (sima_cons (r_mkx S (anc := ["NoPlan", "BideError"]) (by decide +kernel) (by decide +kernel) (sima_cons (r_var S (i := 0) (by decide +kernel)) sima_nil rfl)) (sima_cons (r_mkx S (anc := ["BadPlace", "BideError"]) (by decide +kernel) (by decide +kernel) (sima_cons (r_var S (i := 0) (by decide +kernel)) sima_nil rfl)) (sima_cons (r_mkx S (anc := ["ManyHands", "BideError"]) (by decide +kernel) (by decide +kernel) (sima_cons (r_var S (i := 0) (by decide +kernel)) sima_nil rfl)) sima_nil rfl) rfl) rfl)) sima_nil rfl))))
 (simss_cons (sims_gc (r_expr (b_list_extend S (r_var S (i := 1) (by decide +kernel)) (sima_cons (sim_lst (sima_cons (r_mkx S (anc := ["BadOffers", "BideError"]) (by decide +kernel) (by decide +kernel) (sima_cons (r_var S (i := 0) (by decide +kernel)) sima_nil rfl)) (sima_cons (r_mkx S (anc := ["Contrary", "BideError"]) (by decide +kernel) (by decide +kernel) (sima_cons (r_var S (i := 0) (by decide +kernel)) sima_nil rfl)) (sima_cons (r_mkx S (anc := ["Begun", "BideError"]) (by decide +kernel) (by decide +kernel) (sima_cons (r_var S (i := 0) (by decide +kernel)) sima_nil rfl)) sima_nil rfl) rfl) rfl)) sima_nil rfl))))
 (simss_cons (sims_gc (r_expr (b_list_extend S (r_var S (i := 1) (by decide +kernel)) (sima_cons (sim_lst (sima_cons (r_mkx S (anc := ["Early", "BideError"]) (by decide +kernel) (by decide +kernel) (sima_cons (r_var S (i := 0) (by decide +kernel)) sima_nil rfl)) (sima_cons (r_mkx S (anc := ["NotLater", "BideError"]) (by decide +kernel) (by decide +kernel) (sima_cons (r_var S (i := 0) (by decide +kernel)) sima_nil rfl)) (sima_cons (r_mkx S (anc := ["NothingToUndo", "BideError"]) (by decide +kernel) (by decide +kernel) (sima_cons (r_var S (i := 0) (by decide +kernel)) sima_nil rfl)) sima_nil rfl) rfl) rfl)) sima_nil rfl))))
 (simss_cons (sims_gc (r_expr (b_list_extend S (r_var S (i := 1) (by decide +kernel)) (sima_cons (sim_lst (sima_cons (r_mkx S (anc := ["NothingToRedo", "BideError"]) (by decide +kernel) (by decide +kernel) (sima_cons (r_var S (i := 0) (by decide +kernel)) sima_nil rfl)) (sima_cons (r_mkx S (anc := ["NoTrial", "BideError"]) (by decide +kernel) (by decide +kernel) (sima_cons (r_var S (i := 0) (by decide +kernel)) sima_nil rfl)) (sima_cons (r_mkx S (anc := ["BadJournal", "BideError"]) (by decide +kernel) (by decide +kernel) (sima_cons (r_var S (i := 0) (by decide +kernel)) sima_nil rfl)) sima_nil rfl) rfl) rfl)) sima_nil rfl))))
 (simss_cons (sims_gc (r_expr (b_list_extend S (r_var S (i := 1) (by decide +kernel)) (sima_cons (sim_lst (sima_cons (r_mkx S (anc := ["BadLine", "BideError"]) (by decide +kernel) (by decide +kernel) (sima_cons (r_var S (i := 0) (by decide +kernel)) sima_nil rfl)) sima_nil rfl)) sima_nil rfl))))
 (simss_one (sims_ret (r_var S (i := 1) (by decide +kernel))))))))))))))
def st__law_odd : Stmt := top 35
def N__law_odd : List Str := ["_law_pot_here", "_law_some", "_law_more"]
def m__law_odd : MS :=
 (mSeq (mSet 1 (gcE (mLst (mCons (mC .non) (mCons (mC (.bl true)) (mCons (mC (.bl false)) (mCons (mC (.int 0)) (mCons (mC (.int 1)) (mCons (mUn vNeg (mC (.int 1))) (mCons (mC (.int 2)) (mCons (mC (.int 30)) (mCons (mC (.str "")) (mCons (mC (.str "a")) (mCons (mC (.str "b")) (mCons (mTup mNil) (mCons (mLst mNil) (mCons mDisp0 (mCons (mTup (mCons (mC (.int 0)) mNil)) (mCons (mTup (mCons (mTup mNil) mNil)) (mCons (mLst (mCons (mC (.int 0)) mNil)) (mCons (mTup (mCons (mC (.str "a")) mNil)) (mCons (mC (.str "hands 1")) mNil))))))))))))))))))))))
 (mSeq (mSet 2 (gcE (mLst (mCons (mDisp [((mC (.str "a")), (mC (.int 1)))]) (mCons (mTup (mCons (mC (.int 0)) (mCons (mC (.int 4)) mNil))) (mCons (mTup (mCons (mC (.int 1)) (mCons (mC (.int 2)) mNil))) (mCons (mTup (mCons (mTup (mCons (mC (.int 1)) (mCons (mC (.int 2)) mNil))) mNil)) (mCons (mBin vPow (mC (.int 10)) (mC (.int 8))) (mCons (mLst (mCons (mC (.str "a")) mNil)) (mCons (mTup (mCons (mTup (mCons (mC (.int 0)) (mCons (mC (.int 0)) (mCons (mC (.int 5)) mNil)))) mNil)) (mCons (mTup (mCons (mC (.int 0)) (mCons (mC .non) mNil))) (mCons (mC (.str "1")) (mCons (mTup (mCons (mC (.bl true)) (mCons (mC (.int 1)) mNil))) mNil)))))))))))))
 (mRet (mCall "_law_of" [] (mCons (mVar 0) (mCons (mBin vAdd (mVar 1) (mVar 2)) mNil))))))
abbrev C__law_odd : Bi.Ctx := ⟨N__law_odd, defScope st__law_odd, fun _ => true⟩
theorem s__law_odd {X : Cx} {W : WX} {φ : Phi} {k : Nat} (S : Cok X W tb φ k C__law_odd) : SimSs X W φ m__law_odd (defBody st__law_odd) :=
 (simss_cons (r_set S (i := 1) (by decide +kernel) (sim_gc (sim_lst (sima_cons r_non (sima_cons r_bl (sima_cons r_bl (sima_cons r_int (sima_cons r_int (sima_cons (sim_un un_neg vr_neg r_int (by decide)) (sima_cons r_int (sima_cons r_int (sima_cons r_str (sima_cons r_str (sima_cons r_str (sima_cons (sim_tup sima_nil) (sima_cons (sim_lst sima_nil) (sima_cons sim_disp0 (sima_cons (sim_tup (sima_cons r_int sima_nil rfl)) (sima_cons (sim_tup (sima_cons (sim_tup sima_nil) sima_nil rfl)) (sima_cons (sim_lst (sima_cons r_int sima_nil rfl)) (sima_cons (sim_tup (sima_cons r_str sima_nil rfl)) (sima_cons r_str sima_nil rfl) rfl) rfl) rfl) rfl) rfl) rfl) rfl) rfl) rfl) rfl) rfl) rfl) rfl) rfl) rfl) rfl) rfl) rfl))))
 (simss_cons (r_set S (i := 2) (by decide +kernel) (sim_gc (sim_lst (sima_cons (sim_disp (SimPs.cons r_str r_int SimPs.nil) (by simp) (by simp)) (sima_cons (sim_tup (sima_cons r_int (sima_cons r_int sima_nil rfl) rfl)) (sima_cons (sim_tup (sima_cons r_int (sima_cons r_int sima_nil rfl) rfl)) (sima_cons (sim_tup (sima_cons (sim_tup (sima_cons r_int (sima_cons r_int sima_nil rfl) rfl)) sima_nil rfl)) (sima_cons (sim_bin op_powW vr_pow r_int r_int) (sima_cons (sim_lst (sima_cons r_str sima_nil rfl)) (sima_cons (sim_tup (sima_cons (sim_tup (sima_cons r_int (sima_cons r_int (sima_cons r_int sima_nil rfl) rfl) rfl)) sima_nil rfl)) (sima_cons (sim_tup (sima_cons r_int (sima_cons r_non sima_nil rfl) rfl)) (sima_cons r_str (sima_cons (sim_tup (sima_cons r_bl (sima_cons r_int sima_nil rfl) rfl)) sima_nil rfl) rfl) rfl) rfl) rfl) rfl) rfl) rfl) rfl) rfl))))
 (simss_one (sims_ret (r_call S (by decide +kernel) (j := 2) rfl (by decide +kernel) (sima_cons (r_var S (i := 0) (by decide +kernel)) (sima_cons (sim_bin opr_add vr_add (r_var S (i := 1) (by decide +kernel)) (r_var S (i := 2) (by decide +kernel))) sima_nil rfl) rfl))))))
def st__law_marks : Stmt := top 37
def N__law_marks : List Str := ["_law_error", "_law_found"]
def m__law_marks : MS :=
 (mSeq (mSet 1 (mLst (mCons (mB (vIsX tb.exc) (mCons (mVar 0) (mCons (mC (.glob "BadBook")) mNil))) (mCons (mB (vIsX tb.exc) (mCons (mVar 0) (mCons (mC (.glob "NoJob")) mNil))) (mCons (mB (vIsX tb.exc) (mCons (mVar 0) (mCons (mC (.glob "BadHour")) mNil))) mNil)))))
 (mSeq (gcS (mExp (mBM kdLst vExtend (mVar 1) (mCons (mLst (mCons (mB (vIsX tb.exc) (mCons (mVar 0) (mCons (mC (.glob "BadNumber")) mNil))) (mCons (mB (vIsX tb.exc) (mCons (mVar 0) (mCons (mC (.glob "BadName")) mNil))) (mCons (mB (vIsX tb.exc) (mCons (mVar 0) (mCons (mC (.glob "Taken")) mNil))) mNil)))) mNil))))
 (mSeq (gcS (mExp (mBM kdLst vExtend (mVar 1) (mCons (mLst (mCons (mB (vIsX tb.exc) (mCons (mVar 0) (mCons (mC (.glob "Full")) mNil))) (mCons (mB (vIsX tb.exc) (mCons (mVar 0) (mCons (mC (.glob "Alone")) mNil))) (mCons (mB (vIsX tb.exc) (mCons (mVar 0) (mCons (mC (.glob "BadPlan")) mNil))) mNil)))) mNil))))
 (mSeq (gcS (mExp (mBM kdLst vExtend (mVar 1) (mCons (mLst (mCons (mB (vIsX tb.exc) (mCons (mVar 0) (mCons (mC (.glob "NotFitting")) mNil))) (mCons (mB (vIsX tb.exc) (mCons (mVar 0) (mCons (mC (.glob "BadRow")) mNil))) (mCons (mB (vIsX tb.exc) (mCons (mVar 0) (mCons (mC (.glob "OtherBook")) mNil))) mNil)))) mNil))))
 (mSeq (gcS (mExp (mBM kdLst vExtend (mVar 1) (mCons (mLst (mCons (mB (vIsX tb.exc) (mCons (mVar 0) (mCons (mC (.glob "BadHolds")) mNil))) (mCons (mB (vIsX tb.exc) (mCons (mVar 0) (mCons (mC (.glob "BadCaps")) mNil))) (mCons (mB (vIsX tb.exc) (mCons (mVar 0) (mCons (mC (.glob "Tied")) mNil))) mNil)))) mNil))))
 (mSeq (gcS (mExp (mBM kdLst vExtend (mVar 1) (mCons (mLst (mCons (mB (vIsX tb.exc) (mCons (mVar 0) (mCons (mC (.glob "NoPlan")) mNil))) (mCons (mB (vIsX tb.exc) (mCons (mVar 0) (mCons (mC (.glob "BadPlace")) mNil))) (mCons (mB (vIsX tb.exc) (mCons (mVar 0) (mCons (mC (.glob "ManyHands")) mNil))) mNil)))) mNil))))
 (mSeq (gcS (mExp (mBM kdLst vExtend (mVar 1) (mCons (mLst (mCons (mB (vIsX tb.exc) (mCons (mVar 0) (mCons (mC (.glob "BadOffers")) mNil))) (mCons (mB (vIsX tb.exc) (mCons (mVar 0) (mCons (mC (.glob "Contrary")) mNil))) (mCons (mB (vIsX tb.exc) (mCons (mVar 0) (mCons (mC (.glob "Begun")) mNil))) mNil)))) mNil))))
 (mSeq (gcS (mExp (mBM kdLst vExtend (mVar 1) (mCons (mLst (mCons (mB (vIsX tb.exc) (mCons (mVar 0) (mCons (mC (.glob "Early")) mNil))) (mCons (mB (vIsX tb.exc) (mCons (mVar 0) (mCons (mC (.glob "NotLater")) mNil))) (mCons (mB (vIsX tb.exc) (mCons (mVar 0) (mCons (mC (.glob "NothingToUndo")) mNil))) mNil)))) mNil))))
 (mSeq (gcS (mExp (mBM kdLst vExtend (mVar 1) (mCons (mLst (mCons (mB (vIsX tb.exc) (mCons (mVar 0) (mCons (mC (.glob "NothingToRedo")) mNil))) (mCons (mB (vIsX tb.exc) (mCons (mVar 0) (mCons (mC (.glob "NoTrial")) mNil))) (mCons (mB (vIsX tb.exc) (mCons (mVar 0) (mCons (mC (.glob "BadJournal")) mNil))) mNil)))) mNil))))
 (mSeq (gcS (mExp (mBM kdLst vExtend (mVar 1) (mCons (mLst (mCons (mB (vIsX tb.exc) (mCons (mVar 0) (mCons (mC (.glob "BadLine")) mNil))) mNil)) mNil))))
 (mRet (mVar 1))))))))))))
abbrev C__law_marks : Bi.Ctx := ⟨N__law_marks, defScope st__law_marks, fun _ => true⟩
theorem s__law_marks {X : Cx} {W : WX} {φ : Phi} {k : Nat} (S : Cok X W tb φ k C__law_marks) : SimSs X W φ m__law_marks (defBody st__law_marks) :=
 (simss_cons (r_set S (i := 1) (by decide +kernel) (sim_lst (sima_cons (b_isX S (by decide +kernel) (by decide +kernel) (sima_cons (r_var S (i := 0) (by decide +kernel)) (sima_cons (r_cls S (anc := ["BadBook", "BideError"]) (by decide +kernel) (by decide +kernel)) sima_nil rfl) rfl)) (sima_cons (b_isX S (by decide +kernel) (by decide +kernel) (sima_cons (r_var S (i := 0) (by decide +kernel)) (sima_cons (r_cls S (anc := ["NoJob", "BideError"]) (by decide +kernel) (by decide +kernel)) sima_nil rfl) rfl)) (sima_cons (b_isX S (by decide +kernel) (by decide +kernel) (sima_cons (r_var S (i := 0) (by decide +kernel)) (sima_cons (r_cls S (anc := ["BadHour", "BideError"]) (by decide +kernel) (by decide +kernel)) sima_nil rfl) rfl)) sima_nil rfl) rfl) rfl)))
 (simss_cons (sims_gc (r_expr (b_list_extend S (r_var S (i := 1) (by decide +kernel)) (sima_cons (sim_lst (sima_cons (b_isX S (by decide +kernel) (by decide +kernel) (sima_cons (r_var S (i := 0) (by decide +kernel)) (sima_cons (r_cls S (anc := ["BadNumber", "BideError"]) (by decide +kernel) (by decide +kernel)) sima_nil rfl) rfl)) (sima_cons (b_isX S (by decide +kernel) (by decide +kernel) (sima_cons (r_var S (i := 0) (by decide +kernel)) (sima_cons (r_cls S (anc := ["BadName", "BideError"]) (by decide +kernel) (by decide +kernel)) sima_nil rfl) rfl)) (sima_cons (b_isX S (by decide +kernel) (by decide +kernel) (sima_cons (r_var S (i := 0) (by decide +kernel)) (sima_cons (r_cls S (anc := ["Taken", "BideError"]) (by decide +kernel) (by decide +kernel)) sima_nil rfl) rfl)) sima_nil rfl) rfl) rfl)) sima_nil rfl))))
 (simss_cons (sims_gc (r_expr (b_list_extend S (r_var S (i := 1) (by decide +kernel)) (sima_cons (sim_lst (sima_cons (b_isX S (by decide +kernel) (by decide +kernel) (sima_cons (r_var S (i := 0) (by decide +kernel)) (sima_cons (r_cls S (anc := ["Full", "BideError"]) (by decide +kernel) (by decide +kernel)) sima_nil rfl) rfl)) (sima_cons (b_isX S (by decide +kernel) (by decide +kernel) (sima_cons (r_var S (i := 0) (by decide +kernel)) (sima_cons (r_cls S (anc := ["Alone", "BideError"]) (by decide +kernel) (by decide +kernel)) sima_nil rfl) rfl)) (sima_cons (b_isX S (by decide +kernel) (by decide +kernel) (sima_cons (r_var S (i := 0) (by decide +kernel)) (sima_cons (r_cls S (anc := ["BadPlan", "BideError"]) (by decide +kernel) (by decide +kernel)) sima_nil rfl) rfl)) sima_nil rfl) rfl) rfl)) sima_nil rfl))))
 (simss_cons (sims_gc (r_expr (b_list_extend S (r_var S (i := 1) (by decide +kernel)) (sima_cons (sim_lst (sima_cons (b_isX S (by decide +kernel) (by decide +kernel) (sima_cons (r_var S (i := 0) (by decide +kernel)) (sima_cons (r_cls S (anc := ["NotFitting", "BideError"]) (by decide +kernel) (by decide +kernel)) sima_nil rfl) rfl)) (sima_cons (b_isX S (by decide +kernel) (by decide +kernel) (sima_cons (r_var S (i := 0) (by decide +kernel)) (sima_cons (r_cls S (anc := ["BadRow", "BideError"]) (by decide +kernel) (by decide +kernel)) sima_nil rfl) rfl)) (sima_cons (b_isX S (by decide +kernel) (by decide +kernel) (sima_cons (r_var S (i := 0) (by decide +kernel)) (sima_cons (r_cls S (anc := ["OtherBook", "BideError"]) (by decide +kernel) (by decide +kernel)) sima_nil rfl) rfl)) sima_nil rfl) rfl) rfl)) sima_nil rfl))))
 (simss_cons (sims_gc (r_expr (b_list_extend S (r_var S (i := 1) (by decide +kernel)) (sima_cons (sim_lst (sima_cons (b_isX S (by decide +kernel) (by decide +kernel) (sima_cons (r_var S (i := 0) (by decide +kernel)) (sima_cons (r_cls S (anc := ["BadHolds", "BideError"]) (by decide +kernel) (by decide +kernel)) sima_nil rfl) rfl)) (sima_cons (b_isX S (by decide +kernel) (by decide +kernel) (sima_cons (r_var S (i := 0) (by decide +kernel)) (sima_cons (r_cls S (anc := ["BadCaps", "BideError"]) (by decide +kernel) (by decide +kernel)) sima_nil rfl) rfl)) (sima_cons (b_isX S (by decide +kernel) (by decide +kernel) (sima_cons (r_var S (i := 0) (by decide +kernel)) (sima_cons (r_cls S (anc := ["Tied", "BideError"]) (by decide +kernel) (by decide +kernel)) sima_nil rfl) rfl)) sima_nil rfl) rfl) rfl)) sima_nil rfl))))
 (simss_cons (sims_gc (r_expr (b_list_extend S (r_var S (i := 1) (by decide +kernel)) (sima_cons (sim_lst (sima_cons (b_isX S (by decide +kernel) (by decide +kernel) (sima_cons (r_var S (i := 0) (by decide +kernel)) (sima_cons (r_cls S (anc := ["NoPlan", "BideError"]) (by decide +kernel) (by decide +kernel)) sima_nil rfl) rfl)) (sima_cons (b_isX S (by decide +kernel) (by decide +kernel) (sima_cons (r_var S (i := 0) (by decide +kernel)) (sima_cons (r_cls S (anc := ["BadPlace", "BideError"]) (by decide +kernel) (by decide +kernel)) sima_nil rfl) rfl)) (sima_cons (b_isX S (by decide +kernel) (by decide +kernel) (sima_cons (r_var S (i := 0) (by decide +kernel)) (sima_cons (r_cls S (anc := ["ManyHands", "BideError"]) (by decide +kernel) (by decide +kernel)) sima_nil rfl) rfl)) sima_nil rfl) rfl) rfl)) sima_nil rfl))))
 (simss_cons (sims_gc (r_expr (b_list_extend S (r_var S (i := 1) (by decide +kernel)) (sima_cons (sim_lst (sima_cons (b_isX S (by decide +kernel) (by decide +kernel) (sima_cons (r_var S (i := 0) (by decide +kernel)) (sima_cons (r_cls S (anc := ["BadOffers", "BideError"]) (by decide +kernel) (by decide +kernel)) sima_nil rfl) rfl)) (sima_cons (b_isX S (by decide +kernel) (by decide +kernel) (sima_cons (r_var S (i := 0) (by decide +kernel)) (sima_cons (r_cls S (anc := ["Contrary", "BideError"]) (by decide +kernel) (by decide +kernel)) sima_nil rfl) rfl)) (sima_cons (b_isX S (by decide +kernel) (by decide +kernel) (sima_cons (r_var S (i := 0) (by decide +kernel)) (sima_cons (r_cls S (anc := ["Begun", "BideError"]) (by decide +kernel) (by decide +kernel)) sima_nil rfl) rfl)) sima_nil rfl) rfl) rfl)) sima_nil rfl))))
 (simss_cons (sims_gc (r_expr (b_list_extend S (r_var S (i := 1) (by decide +kernel)) (sima_cons (sim_lst (sima_cons (b_isX S (by decide +kernel) (by decide +kernel) (sima_cons (r_var S (i := 0) (by decide +kernel)) (sima_cons (r_cls S (anc := ["Early", "BideError"]) (by decide +kernel) (by decide +kernel)) sima_nil rfl) rfl)) (sima_cons (b_isX S (by decide +kernel) (by decide +kernel) (sima_cons (r_var S (i := 0) (by decide +kernel)) (sima_cons (r_cls S (anc := ["NotLater", "BideError"]) (by decide +kernel) (by decide +kernel)) sima_nil rfl) rfl)) (sima_cons (b_isX S (by decide +kernel) (by decide +kernel) (sima_cons (r_var S (i := 0) (by decide +kernel)) (sima_cons (r_cls S (anc := ["NothingToUndo", "BideError"]) (by decide +kernel) (by decide +kernel)) sima_nil rfl) rfl)) sima_nil rfl) rfl) rfl)) sima_nil rfl))))
 (simss_cons (sims_gc (r_expr (b_list_extend S (r_var S (i := 1) (by decide +kernel)) (sima_cons (sim_lst (sima_cons (b_isX S (by decide +kernel) (by decide +kernel) (sima_cons (r_var S (i := 0) (by decide +kernel)) (sima_cons (r_cls S (anc := ["NothingToRedo", "BideError"]) (by decide +kernel) (by decide +kernel)) sima_nil rfl) rfl)) (sima_cons (b_isX S (by decide +kernel) (by decide +kernel) (sima_cons (r_var S (i := 0) (by decide +kernel)) (sima_cons (r_cls S (anc := ["NoTrial", "BideError"]) (by decide +kernel) (by decide +kernel)) sima_nil rfl) rfl)) (sima_cons (b_isX S (by decide +kernel) (by decide +kernel) (sima_cons (r_var S (i := 0) (by decide +kernel)) (sima_cons (r_cls S (anc := ["BadJournal", "BideError"]) (by decide +kernel) (by decide +kernel)) sima_nil rfl) rfl)) sima_nil rfl) rfl) rfl)) sima_nil rfl))))
 (simss_cons (sims_gc (r_expr (b_list_extend S (r_var S (i := 1) (by decide +kernel)) (sima_cons (sim_lst (sima_cons (b_isX S (by decide +kernel) (by decide +kernel) (sima_cons (r_var S (i := 0) (by decide +kernel)) (sima_cons (r_cls S (anc := ["BadLine", "BideError"]) (by decide +kernel) (by decide +kernel)) sima_nil rfl) rfl)) sima_nil rfl)) sima_nil rfl))))
 (simss_one (sims_ret (r_var S (i := 1) (by decide +kernel))))))))))))))
def st__law_take : Stmt := top 32
def N__law_take : List Str := ["_law_pot_here", "_law_upto", "_law_digit", "_law_prime", "_law_blend"]
def m__law_take : MS :=
 (mSeq (mIfS (mBin vGt (mBin vIx (mVar 0) (mC (.int 0))) (mC (.int 0)))
 (mSeq (mSet 2 (mBin vMod (mB vInt (mCons (mBin vIx (mVar 0) (mC (.int 0))) mNil)) (mVar 1)))
 (mSeq (mSetIx (mBin vDiv (mBin vIx (mVar 0) (mC (.int 0))) (mVar 1)) (mVar 0) (mC (.int 0)))
 (mRet (mVar 2))))
 mNx)
 (mSeq (mSetIx (mBin vAdd (mBin vIx (mVar 0) (mC (.int 2))) (mC (.int 1))) (mVar 0) (mC (.int 2)))
 (mSeq (mSet 3 (gcE (mBin vIx (mLst (mCons (mC (.int 2147483647)) (mCons (mC (.int 2147483629)) (mCons (mC (.int 2147483587)) (mCons (mC (.int 2147483579)) (mCons (mC (.int 2147483563)) mNil)))))) (mBin vMod (mB vInt (mCons (mBin vIx (mVar 0) (mC (.int 2))) mNil)) (mC (.int 5))))))
 (mSeq (mSet 4 (mBin vMod (mB vInt (mCons (mBin vPow (mB vInt (mCons (mBin vAdd (mBin vAdd (mBin vIx (mVar 0) (mC (.int 1))) (mBin vMul (mBin vMul (mC (.int 95471)) (mBin vIx (mVar 0) (mC (.int 2)))) (mBin vIx (mVar 0) (mC (.int 2))))) (mC (.int 203))) mNil)) (mC (.int 3))) mNil)) (mVar 3)))
 (mRet (mBin vMod (mB vInt (mCons (mBin vDiv (mBin vMul (mVar 4) (mBin vAdd (mBin vMod (mB vInt (mCons (mVar 4) mNil)) (mC (.int 10039))) (mBin vMul (mC (.int 91)) (mBin vIx (mVar 0) (mC (.int 2)))))) (mC (.int 131))) mNil)) (mVar 1)))))))
abbrev C__law_take : Bi.Ctx := ⟨N__law_take, defScope st__law_take, fun _ => true⟩
theorem s__law_take {X : Cx} {W : WX} {φ : Phi} {k : Nat} (S : Cok X W tb φ k C__law_take) : SimSs X W φ m__law_take (defBody st__law_take) :=
 (simss_cons (sims_if (sim_cmp op_gt vr_gt (r_ix S (r_var S (i := 0) (by decide +kernel)) r_int) r_int rfl)
 (simss_cons (r_set S (i := 2) (by decide +kernel) (sim_bin op_mod vr_mod (b_int S (by decide +kernel) (by decide +kernel) (sima_cons (r_ix S (r_var S (i := 0) (by decide +kernel)) r_int) sima_nil rfl)) (r_var S (i := 1) (by decide +kernel))))
 (simss_cons (r_setIx S (sim_bin op_fdiv vr_div (r_ix S (r_var S (i := 0) (by decide +kernel)) r_int) (r_var S (i := 1) (by decide +kernel))) (r_var S (i := 0) (by decide +kernel)) r_int (by kernel_rfl) (hg := pg_sub ((r_var S (i := 0) (by decide +kernel))).pe (r_int).pe (Bi.PSet.or set_list (Bi.set_dict S.un1))))
 (simss_one (sims_ret (r_var S (i := 2) (by decide +kernel))))))
 simss_nil)
 (simss_cons (r_setIx S (sim_bin opr_add vr_add (r_ix S (r_var S (i := 0) (by decide +kernel)) r_int) r_int) (r_var S (i := 0) (by decide +kernel)) r_int (by kernel_rfl) (hg := pg_sub ((r_var S (i := 0) (by decide +kernel))).pe (r_int).pe (Bi.PSet.or set_list (Bi.set_dict S.un1))))
 (simss_cons (r_set S (i := 3) (by decide +kernel) (sim_gc (r_ix S (sim_lst (sima_cons r_int (sima_cons r_int (sima_cons r_int (sima_cons r_int (sima_cons r_int sima_nil rfl) rfl) rfl) rfl) rfl)) (sim_bin op_mod vr_mod (b_int S (by decide +kernel) (by decide +kernel) (sima_cons (r_ix S (r_var S (i := 0) (by decide +kernel)) r_int) sima_nil rfl)) r_int))))
 (simss_cons (r_set S (i := 4) (by decide +kernel) (sim_bin op_mod vr_mod (b_int S (by decide +kernel) (by decide +kernel) (sima_cons (sim_bin op_powW vr_pow (b_int S (by decide +kernel) (by decide +kernel) (sima_cons (sim_bin opr_add vr_add (sim_bin opr_add vr_add (r_ix S (r_var S (i := 0) (by decide +kernel)) r_int) (sim_bin op_mul vr_mul (sim_bin op_mul vr_mul r_int (r_ix S (r_var S (i := 0) (by decide +kernel)) r_int)) (r_ix S (r_var S (i := 0) (by decide +kernel)) r_int))) r_int) sima_nil rfl)) r_int) sima_nil rfl)) (r_var S (i := 3) (by decide +kernel))))
 (simss_one (sims_ret (sim_bin op_mod vr_mod (b_int S (by decide +kernel) (by decide +kernel) (sima_cons (sim_bin op_fdiv vr_div (sim_bin op_mul vr_mul (r_var S (i := 4) (by decide +kernel)) (sim_bin opr_add vr_add (sim_bin op_mod vr_mod (b_int S (by decide +kernel) (by decide +kernel) (sima_cons (r_var S (i := 4) (by decide +kernel)) sima_nil rfl)) r_int) (sim_bin op_mul vr_mul r_int (r_ix S (r_var S (i := 0) (by decide +kernel)) r_int)))) r_int) sima_nil rfl)) (r_var S (i := 1) (by decide +kernel)))))))))
def r_law : Bi.Row := ⟨"law", .glo "law", "law", "law", defArgs st_law, defBody st_law, defScope st_law, N_law, ["_law_script"], [], m_law⟩
theorem ok_law : ROk dd r_law := ⟨by decide +kernel, by kernel_rfl, by decide +kernel, bi0 (ps := ["_law_script"]) fun _ _ _ _ _ _ us hl => match us, hl with | [_], _ => rfl, fun X W φ k S => s_law S⟩
def r__law_right : Bi.Row := ⟨"_law_right", .glo "_law_right", "_law_right", "_law_right", defArgs st__law_right, defBody st__law_right, defScope st__law_right, N__law_right, ["_law_pot_here"], [], m__law_right⟩
theorem ok__law_right : ROk dd r__law_right := ⟨by decide +kernel, by kernel_rfl, by decide +kernel, bi0 (ps := ["_law_pot_here"]) fun _ _ _ _ _ _ us hl => match us, hl with | [_], _ => rfl, fun X W φ k S => s__law_right S⟩
def r__law_pot : Bi.Row := ⟨"_law_pot", .glo "_law_pot", "_law_pot", "_law_pot", defArgs st__law_pot, defBody st__law_pot, defScope st__law_pot, N__law_pot, ["_law_script", "_law_k"], [], m__law_pot⟩
theorem ok__law_pot : ROk dd r__law_pot := ⟨by decide +kernel, by kernel_rfl, by decide +kernel, bi0 (ps := ["_law_script", "_law_k"]) fun _ _ _ _ _ _ us hl => match us, hl with | [_, _], _ => rfl, fun X W φ k S => s__law_pot S⟩
def r__law_places : Bi.Row := ⟨"_law_places", .glo "_law_places", "_law_places", "_law_places", defArgs st__law_places, defBody st__law_places, defScope st__law_places, N__law_places, ["_law_script", "_law_most"], [], m__law_places⟩
theorem ok__law_places : ROk dd r__law_places := ⟨by decide +kernel, by kernel_rfl, by decide +kernel, bi0 (ps := ["_law_script", "_law_most"]) fun _ _ _ _ _ _ us hl => match us, hl with | [_, _], _ => rfl, fun X W φ k S => s__law_places S⟩
def r__law_of : Bi.Row := ⟨"_law_of", .glo "_law_of", "_law_of", "_law_of", defArgs st__law_of, defBody st__law_of, defScope st__law_of, N__law_of, ["_law_pot_here", "_law_some"], [], m__law_of⟩
theorem ok__law_of : ROk dd r__law_of := ⟨by decide +kernel, by kernel_rfl, by decide +kernel, bi0 (ps := ["_law_pot_here", "_law_some"]) fun _ _ _ _ _ _ us hl => match us, hl with | [_, _], _ => rfl, fun X W φ k S => s__law_of S⟩
def r__law_made : Bi.Row := ⟨"_law_made", .glo "_law_made", "_law_made", "_law_made", defArgs st__law_made, defBody st__law_made, defScope st__law_made, N__law_made, ["_law_value"], [], m__law_made⟩
theorem ok__law_made : ROk dd r__law_made := ⟨by decide +kernel, by kernel_rfl, by decide +kernel, bi0 (ps := ["_law_value"]) fun _ _ _ _ _ _ us hl => match us, hl with | [_], _ => rfl, fun X W φ k S => s__law_made S⟩
def r__law_odd : Bi.Row := ⟨"_law_odd", .glo "_law_odd", "_law_odd", "_law_odd", defArgs st__law_odd, defBody st__law_odd, defScope st__law_odd, N__law_odd, ["_law_pot_here"], [], m__law_odd⟩
theorem ok__law_odd : ROk dd r__law_odd := ⟨by decide +kernel, by kernel_rfl, by decide +kernel, bi0 (ps := ["_law_pot_here"]) fun _ _ _ _ _ _ us hl => match us, hl with | [_], _ => rfl, fun X W φ k S => s__law_odd S⟩
def r__law_marks : Bi.Row := ⟨"_law_marks", .glo "_law_marks", "_law_marks", "_law_marks", defArgs st__law_marks, defBody st__law_marks, defScope st__law_marks, N__law_marks, ["_law_error"], [], m__law_marks⟩
theorem ok__law_marks : ROk dd r__law_marks := ⟨by decide +kernel, by kernel_rfl, by decide +kernel, bi0 (ps := ["_law_error"]) fun _ _ _ _ _ _ us hl => match us, hl with | [_], _ => rfl, fun X W φ k S => s__law_marks S⟩
def r__law_take : Bi.Row := ⟨"_law_take", .glo "_law_take", "_law_take", "_law_take", defArgs st__law_take, defBody st__law_take, defScope st__law_take, N__law_take, ["_law_pot_here", "_law_upto"], [], m__law_take⟩
theorem ok__law_take : ROk dd r__law_take := ⟨by decide +kernel, by kernel_rfl, by decide +kernel, bi0 (ps := ["_law_pot_here", "_law_upto"]) fun _ _ _ _ _ _ us hl => match us, hl with | [_, _], _ => rfl, fun X W φ k S => s__law_take S⟩
def rs : List Bi.Row := [r_law, r__law_right, r__law_pot, r__law_places, r__law_of, r__law_made, r__law_odd, r__law_marks, r__law_take]
theorem ok_all : ∀ r ∈ rs, ROk dd r := by
  intro r h
  simp only [rs, List.mem_append, List.mem_cons, List.not_mem_nil, or_false] at h
  rcases h with (rfl | rfl | rfl | rfl | rfl | rfl | rfl | rfl | rfl)
  · exact ok_law
  · exact ok__law_right
  · exact ok__law_pot
  · exact ok__law_places
  · exact ok__law_of
  · exact ok__law_made
  · exact ok__law_odd
  · exact ok__law_marks
  · exact ok__law_take
def cl : List Str := []
theorem rows_ok : rowsB dd cl rs = true := by decide +kernel
def loose : List Str := (["__name__", "BideError", "BadBook", "NoJob", "BadHour", "BadNumber", "BadName", "Taken", "Full", "Alone", "BadPlan", "NotFitting", "BadRow", "OtherBook", "BadHolds", "BadCaps", "Tied", "NoPlan", "BadPlace", "ManyHands", "BadOffers", "Contrary", "Begun", "Early", "NotLater", "NothingToUndo", "NothingToRedo", "NoTrial", "BadJournal", "BadLine"] : List Str) ++ (["_law_pot", "_law_take", "_law_of", "_law_places", "_law_odd", "_law_made", "_law_marks", "_law_right"] : List Str)
abbrev R : PySem.W.OpenRow := PySem.W.OpenLaw.row PySem.Challenge.rw_bidehours_k00_errors_keep_their_values
abbrev hk : PySem.W.Hook := hookP 5 dd cl rs
def ob (s : PySem.W.SharedT) : He.AlD := obsPG 5 dd cl rs (HandSHeadRun.getT s)
theorem ob_eq (s : PySem.W.SharedT) : ob s = hk.obs s.abs := obsPG_eq (HandSHeadRun.getT_eq s)
end
end K00

end
section
set_option Elab.async false
set_option linter.all false
set_option maxRecDepth 100000
set_option maxHeartbeats 0
namespace K00
open PySem PySem.Spec PyProof.Rows L2 Bi
theorem run (w : World) : HandSHeadRun.RunEq R (PySem.W.view R.prog [39]) hk ob 9000 loose w := by
  intro os
  kernel_rfl
end K00

end
section
set_option Elab.async false
set_option linter.all false
set_option autoImplicit false
set_option maxRecDepth 100000
set_option maxHeartbeats 1000000
/-! Bi35: evaluation of the Lean functions by simp: one equation a construct. -/
namespace Bi
open PySem
/-- a slot is stored (its own name: the equations of List.set by rfl lead the kernel astray) -/
def sSet (p : Sl) (i : Nat) (v : PV) : Sl := p.set i (some v)
def sClr (p : Sl) (i : Nat) : Sl := p.set i none
@[simp] theorem sSet_0 {o : Option PV} {p : Sl} {v : PV} : sSet (o :: p) 0 v = some v :: p := (rfl)
@[simp] theorem sSet_S {o : Option PV} {p : Sl} {i : Nat} {v : PV} : sSet (o :: p) (i + 1) v = o :: sSet p i v := (rfl)
@[simp] theorem sClr_0 {o : Option PV} {p : Sl} : sClr (o :: p) 0 = none :: p := (rfl)
@[simp] theorem sClr_S {o : Option PV} {p : Sl} {i : Nat} : sClr (o :: p) (i + 1) = o :: sClr p i := (rfl)
def RS.thn (r : RS) (f : Sl → Sg → RS) : RS := match r with
  | .nx p s => f p s
  | r => r
section
variable {α β : Type} {φ : Phi} {p : Sl} {s : Sg} {v w : PV}
@[simp] theorem thn_nx (f : Sl → Sg → RS) : (RS.nx p s).thn f = f p s := (rfl)
@[simp] theorem thn_rt (f : Sl → Sg → RS) : (RS.rt v s).thn f = .rt v s := (rfl)
@[simp] theorem thn_bk (f : Sl → Sg → RS) : (RS.bk p s).thn f = .bk p s := (rfl)
@[simp] theorem thn_ct (f : Sl → Sg → RS) : (RS.ct p s).thn f = .ct p s := (rfl)
@[simp] theorem thn_bad (f : Sl → Sg → RS) : RS.bad.thn f = .bad := (rfl)
@[simp] theorem ev_seq {a b : MS} : mSeq a b φ p s = (a φ p s).thn (b φ) := by
  unfold mSeq RS.thn
  cases a φ p s <;> rfl
@[simp] theorem ev_nx : mNx φ p s = .nx p s := (rfl)
@[simp] theorem ev_bk : mBk φ p s = .bk p s := (rfl)
@[simp] theorem ev_ct : mCt φ p s = .ct p s := (rfl)
@[simp] theorem ev_c : mC v φ p s = .ok v s := (rfl)
@[simp] theorem ev_set {i : Nat} {m : ME} : mSet i m φ p s = (m φ p s).toS p fun v s => .nx (sSet p i v) s := (rfl)
@[simp] theorem ev_exp {m : ME} : mExp m φ p s = (m φ p s).toS p fun _ s => .nx p s := (rfl)
@[simp] theorem ev_ret {m : ME} : mRet m φ p s = (m φ p s).toS p fun v s => .rt v s := (rfl)
@[simp] theorem ev_retN : mRetN φ p s = .rt .non s := (rfl)
theorem ite_b {γ : Type} {t : Bool} {a b : γ} : (match t with | true => a | false => b) = if t = true then a else b := by cases t <;> rfl
@[simp] theorem ev_ifS {c : ME} {a b : MS} : mIfS c a b φ p s = (c φ p s).toS p (onS fun t s => if t = true then a φ p s else b φ p s) := by
  unfold mIfS
  congr; funext t s; cases t <;> rfl
@[simp] theorem onS_bl (f : Bool → Sg → RS) (b : Bool) : onS f (.bl b) s = f b s := (rfl)
@[simp] theorem onB_bl (f : Bool → Sg → R α) (b : Bool) : onB f (.bl b) s = f b s := (rfl)
@[simp] theorem ev_bin {f : PV → PV → Sg → R PV} {a b : ME} : mBin f a b φ p s = (a φ p s).bind fun x s => (b φ p s).bind fun y s => f x y s := (rfl)
@[simp] theorem ev_un {f : PV → Sg → R PV} {a : ME} : mUn f a φ p s = (a φ p s).bind f := (rfl)
@[simp] theorem ev_b {f : List PV → Sg → R PV} {a : ML} : mB f a φ p s = (a φ p s).bind f := (rfl)
@[simp] theorem ev_nil : mNil φ p s = .ok [] s := (rfl)
@[simp] theorem ev_cons {m : ME} {r : ML} : mCons m r φ p s = (m φ p s).bind fun v s => (r φ p s).bind fun vs s => .ok (v :: vs) s := (rfl)
@[simp] theorem ev_not {a : ME} : mNot a φ p s = (a φ p s).bind (onB fun b s => .ok (.bl (!b)) s) := (rfl)
@[simp] theorem ev_and {a b : ME} : mAnd a b φ p s = (a φ p s).bind (onB fun t s => if t = true then b φ p s else .ok (.bl false) s) := by
  unfold mAnd
  congr; funext t s; cases t <;> rfl
@[simp] theorem ev_or {a b : ME} : mOr a b φ p s = (a φ p s).bind (onB fun t s => if t = true then .ok (.bl true) s else b φ p s) := by
  unfold mOr
  congr; funext t s; cases t <;> rfl
@[simp] theorem ev_if {c a b : ME} : mIf c a b φ p s = (c φ p s).bind (onB fun t s => if t = true then a φ p s else b φ p s) := by
  unfold mIf
  congr; funext t s; cases t <;> rfl
@[simp] theorem ite_and {P : Prop} [Decidable P] {b : Bool} : (if P then R.ok (PV.bl b) s else R.ok (PV.bl false) s) = R.ok (PV.bl (decide P && b)) s := by
  by_cases h : P <;> simp [h]
@[simp] theorem ite_or {P : Prop} [Decidable P] {b : Bool} : (if P then R.ok (PV.bl true) s else R.ok (PV.bl b) s) = R.ok (PV.bl (decide P || b)) s := by
  by_cases h : P <;> simp [h]
def lstK (vs : List PV) (s : Sg) : R PV := if vs.length ≤ sizeLine then .ok (.ref s.g.length) (s.push (.lst vs)) else .bad
def tupK (vs : List PV) (s : Sg) : R PV := if vs.length ≤ sizeLine then .ok (.tup vs) s else .bad
theorem lstK_ok {vs : List PV} (h : vs.length ≤ 100000) : lstK vs s = .ok (.ref s.g.length) (s.push (.lst vs)) := if_pos (Nat.le_trans h (by decide))
theorem tupK_ok {vs : List PV} (h : vs.length ≤ 100000) : tupK vs s = .ok (.tup vs) s := if_pos (Nat.le_trans h (by decide))
@[simp] theorem lstK0 : lstK [] s = .ok (.ref s.g.length) (s.push (.lst [])) := lstK_ok (by simp)
@[simp] theorem lstK1 {a : PV} : lstK [a] s = .ok (.ref s.g.length) (s.push (.lst [a])) := lstK_ok (by simp)
@[simp] theorem lstK2 {a b : PV} : lstK [a, b] s = .ok (.ref s.g.length) (s.push (.lst [a, b])) := lstK_ok (by simp)
@[simp] theorem lstK3 {a b c : PV} : lstK [a, b, c] s = .ok (.ref s.g.length) (s.push (.lst [a, b, c])) := lstK_ok (by simp)
@[simp] theorem lstK4 {a b c d : PV} : lstK [a, b, c, d] s = .ok (.ref s.g.length) (s.push (.lst [a, b, c, d])) := lstK_ok (by simp)
@[simp] theorem lstK5 {a0 a1 a2 a3 a4 : PV} : lstK [a0, a1, a2, a3, a4] s = .ok (.ref s.g.length) (s.push (.lst [a0, a1, a2, a3, a4])) := lstK_ok (by simp)
@[simp] theorem lstK6 {a0 a1 a2 a3 a4 a5 : PV} : lstK [a0, a1, a2, a3, a4, a5] s = .ok (.ref s.g.length) (s.push (.lst [a0, a1, a2, a3, a4, a5])) := lstK_ok (by simp)
@[simp] theorem lstK7 {a0 a1 a2 a3 a4 a5 a6 : PV} : lstK [a0, a1, a2, a3, a4, a5, a6] s = .ok (.ref s.g.length) (s.push (.lst [a0, a1, a2, a3, a4, a5, a6])) := lstK_ok (by simp)
@[simp] theorem lstK8 {a0 a1 a2 a3 a4 a5 a6 a7 : PV} : lstK [a0, a1, a2, a3, a4, a5, a6, a7] s = .ok (.ref s.g.length) (s.push (.lst [a0, a1, a2, a3, a4, a5, a6, a7])) := lstK_ok (by simp)
@[simp] theorem lstK14 {a0 a1 a2 a3 a4 a5 a6 a7 a8 a9 a10 a11 a12 a13 : PV} : lstK [a0, a1, a2, a3, a4, a5, a6, a7, a8, a9, a10, a11, a12, a13] s = .ok (.ref s.g.length) (s.push (.lst [a0, a1, a2, a3, a4, a5, a6, a7, a8, a9, a10, a11, a12, a13])) := lstK_ok (by simp)
@[simp] theorem tupK0 : tupK [] s = .ok (.tup []) s := tupK_ok (by simp)
@[simp] theorem tupK1 {a : PV} : tupK [a] s = .ok (.tup [a]) s := tupK_ok (by simp)
@[simp] theorem tupK2 {a b : PV} : tupK [a, b] s = .ok (.tup [a, b]) s := tupK_ok (by simp)
@[simp] theorem tupK3 {a b c : PV} : tupK [a, b, c] s = .ok (.tup [a, b, c]) s := tupK_ok (by simp)
@[simp] theorem ev_lst {r : ML} : mLst r φ p s = (r φ p s).bind lstK := (rfl)
@[simp] theorem ev_tup {r : ML} : mTup r φ p s = (r φ p s).bind tupK := (rfl)
def parK (i j : Nat) (p : Sl) (vs : List PV) (s : Sg) : RS := match vs with | [v, w] => .nx (sSet (sSet p i v) j w) s | _ => .bad
def par3K (i j l : Nat) (p : Sl) (vs : List PV) (s : Sg) : RS := match vs with | [u, v, w] => .nx (sSet (sSet (sSet p i u) j v) l w) s | _ => .bad
@[simp] theorem parK2 {i j : Nat} {v w : PV} : parK i j p [v, w] s = .nx (sSet (sSet p i v) j w) s := (rfl)
@[simp] theorem par3K3 {i j l : Nat} {u v w : PV} : par3K i j l p [u, v, w] s = .nx (sSet (sSet (sSet p i u) j v) l w) s := (rfl)
@[simp] theorem ev_par {i j : Nat} {ml : ML} : mPar i j ml φ p s = (ml φ p s).toS p (parK i j p) := (rfl)
@[simp] theorem ev_par3 {i j l : Nat} {ml : ML} : mPar3 i j l ml φ p s = (ml φ p s).toS p (par3K i j l p) := (rfl)
@[simp] theorem ev_call {x : Str} {dps : List PV} {ml : ML} : mCall x dps ml φ p s = (ml φ p s).bind fun vs s => φ x (vs ++ dps) s := (rfl)
@[simp] theorem ev_gcE {m : ME} : gcE m φ p s = gcR s.g.length s.low (m φ p s.top) := (rfl)
@[simp] theorem ev_setIx {m mo mi : ME} : mSetIx m mo mi φ p s = (m φ p s).toS p fun v s => (mo φ p s).toS p fun o s => (mi φ p s).toS p fun i s => (vSetIx o i v s).toS p fun _ s => .nx p s := (rfl)
@[simp] theorem ev_i2 {f : Int → Int → PV} {i j : Int} : vI2 f (.int i) (.int j) s = .ok (f i j) s := (rfl)
@[simp] theorem ev_i2c {C : Int → Int → Bool} {f : Int → Int → PV} {i j : Int} : vI2c C f (.int i) (.int j) s = if C i j then .ok (f i j) s else .bad := (rfl)
end
end Bi

end
section
set_option Elab.async false
set_option linter.all false
set_option autoImplicit false
set_option maxRecDepth 100000
set_option maxHeartbeats 1000000
/-! Bi36: weakest preconditions of the Lean functions' results. -/
namespace Bi
open PySem
def wpR {α : Type} (r : R α) (Q : α → Sg → Prop) : Prop := match r with
  | .ok v s => Q v s
  | _ => False
structure PQ where
  nx : Sl → Sg → Prop
  rt : PV → Sg → Prop
  bk : Sl → Sg → Prop
  ct : Sl → Sg → Prop
def wpS (r : RS) (Q : PQ) : Prop := match r with
  | .nx p s => Q.nx p s
  | .rt v s => Q.rt v s
  | .bk p s => Q.bk p s
  | .ct p s => Q.ct p s
  | _ => False
section
variable {α β : Type} {φ : Phi} {p : Sl} {s : Sg}
@[simp] theorem wpR_ok (v : α) (Q : α → Sg → Prop) : wpR (.ok v s) Q = Q v s := (rfl)
@[simp] theorem wpR_bad (Q : α → Sg → Prop) : wpR .bad Q = False := (rfl)
@[simp] theorem wpS_nx (Q : PQ) : wpS (.nx p s) Q = Q.nx p s := (rfl)
@[simp] theorem wpS_rt (v : PV) (Q : PQ) : wpS (.rt v s) Q = Q.rt v s := (rfl)
@[simp] theorem wpS_bk (Q : PQ) : wpS (.bk p s) Q = Q.bk p s := (rfl)
@[simp] theorem wpS_ct (Q : PQ) : wpS (.ct p s) Q = Q.ct p s := (rfl)
@[simp] theorem wpS_bad (Q : PQ) : wpS .bad Q = False := (rfl)
@[simp] theorem wpR_bind (r : R α) (f : α → Sg → R β) (Q : β → Sg → Prop) : wpR (r.bind f) Q = wpR r fun v s => wpR (f v s) Q := by cases r <;> rfl
@[simp] theorem wpS_toS (r : R α) (f : α → Sg → RS) (Q : PQ) : wpS (r.toS p f) Q = wpR r fun v s => wpS (f v s) Q := by cases r <;> rfl
@[simp] theorem wpS_thn (r : RS) (f : Sl → Sg → RS) (Q : PQ) : wpS (r.thn f) Q = wpS r ⟨fun p s => wpS (f p s) Q, Q.rt, Q.bk, Q.ct⟩ := by cases r <;> rfl
@[simp] theorem wpR_endR (r : RS) (Q : PV → Sg → Prop) : wpR (endR r) Q = wpS r ⟨fun _ s => Q .non s, Q, fun _ _ => False, fun _ _ => False⟩ := by cases r <;> rfl
@[simp] theorem wpR_gc (n low : Nat) (r : R PV) (Q : PV → Sg → Prop) : wpR (gcR n low r) Q = wpR r fun v s => wpR (gcV n low v s) Q := by
  cases r with
  | ok v s => rfl
  | bad => rfl
  | err C v s =>
    show wpR (if _ then _ else _) Q = False
    split <;> rfl
theorem wpR_mono {r : R α} {Q Q' : α → Sg → Prop} (h : wpR r Q) (k : ∀ v s, Q v s → Q' v s) : wpR r Q' := by
  cases r with
  | ok v s => exact k v s h
  | err C v s => exact h.elim
  | bad => exact h.elim
theorem wpR_some {r : R α} {Q : α → Sg → Prop} (h : wpR r Q) : ∃ v s, r = .ok v s ∧ Q v s := by
  cases r with
  | ok v s => exact ⟨v, s, rfl, h⟩
  | err C v s => exact h.elim
  | bad => exact h.elim
theorem wpR_run {m : MS} {n : Nat} {args : List PV} {Q : PV → Sg → Prop} : wpR (runFn m n φ args s) Q = wpS (m φ (startP n args) s.top) ⟨fun _ s' => wpR (gcV s.g.length s.low .non s') Q, fun v s' => wpR (gcV s.g.length s.low v s') Q, fun _ _ => False, fun _ _ => False⟩ := by
  unfold runFn
  rw [wpR_gc, wpR_endR]
/-! ### garbage -/
theorem gc_drop {n low : Nat} {v : PV} {Q : PV → Sg → Prop} (h1 : n ≤ s.low) (h2 : v.bd n = true) (q : Q v ⟨s.g.take n, low⟩) : wpR (gcV n low v s) Q := by
  unfold gcV
  rw [if_pos h1, if_pos h2]
  exact q
theorem gc_mv {n low m : Nat} {o : PO} {Q : PV → Sg → Prop} (h1 : n ≤ s.low) (hm : n ≤ m) (h2 : s.g[m]? = some o) (h3 : o.bd n = true) (q : Q (.ref n) ⟨s.g.take n ++ [o], low⟩) : wpR (gcV n low (.ref m) s) Q := by
  unfold gcV
  rw [if_pos h1, if_neg (by rw [PV.bd]; simp; omega)]
  simp only [h2]
  rw [if_pos h3]
  exact q
theorem gc_deep {n low m : Nat} {o : PO} {Q : PV → Sg → Prop} (h1 : n ≤ s.low) (hm : n ≤ m) (h2 : s.g[m]? = some o) (h3 : o.bd n = false) (q : Q (.ref m) ⟨s.g, low⟩) : wpR (gcV n low (.ref m) s) Q := by
  unfold gcV
  rw [if_pos h1, if_neg (by rw [PV.bd]; simp; omega)]
  simp only [h2]
  rw [if_neg (by rw [h3]; exact Bool.false_ne_true)]
  exact q
/-! ### loops -/
theorem wp_forM {it : Wk} {g : PV → Sl → Option Sl} {b : MS} {Q : PQ} (Inv : List PV → Sl → Sg → Prop) (hok : ∀ ys p s, Inv ys p s → it.ok s) (hstep : ∀ y ys p s, Inv (y :: ys) p s → ∃ p1, g y p = some p1 ∧ wpS (b φ p1 s) ⟨Inv ys, Q.rt, Q.nx, Inv ys⟩) (hend : ∀ p s, Inv [] p s → Q.nx p s) :
    ∀ (xs : List PV) (p : Sl) (s : Sg), Inv xs p s → wpS (forM it g b φ xs p s) Q
  | [], p, s, h => by
    rw [forM_nil (hok _ _ _ h)]
    exact hend p s h
  | x :: xs, p, s, h => by
    rw [forM_cons (hok _ _ _ h)]
    obtain ⟨p1, e, w⟩ := hstep x xs p s h
    rw [e]
    dsimp only
    cases e2 : b φ p1 s with
    | nx p2 s2 => rw [e2] at w; exact wp_forM Inv hok hstep hend xs p2 s2 w
    | ct p2 s2 => rw [e2] at w; exact wp_forM Inv hok hstep hend xs p2 s2 w
    | bk p2 s2 => rw [e2] at w; exact w
    | rt v s2 => rw [e2] at w; exact w
    | er C v p2 s2 => rw [e2] at w; exact w.elim
    | bad => rw [e2] at w; exact w.elim
/-- a while with a measure -/
theorem wp_wh {c : ME} {b : MS} {Q : PQ} (Inv : Nat → Sl → Sg → Prop) (hstep : ∀ n p s, Inv n p s → wpR (c φ p s) fun t s1 => (t = .bl true ∧ wpS (b φ p s1) ⟨fun p s => ∃ m, m < n ∧ Inv m p s, Q.rt, Q.nx, fun p s => ∃ m, m < n ∧ Inv m p s⟩) ∨ (t = .bl false ∧ Q.nx p s1)) :
    ∀ (n : Nat) (p : Sl) (s : Sg), Inv n p s → wpS (mWh c b φ p s) Q := by
  intro n
  induction n using Nat.strongRecOn with
  | ind n ih =>
    intro p s h
    rw [mWh_eq]
    have w0 := hstep n p s h
    cases e : c φ p s with
    | err C v s1 => rw [e] at w0; exact w0.elim
    | bad => rw [e] at w0; exact w0.elim
    | ok t s1 =>
      rw [e] at w0
      rcases (show (t = .bl true ∧ _) ∨ (t = .bl false ∧ _) from w0) with ⟨et, w⟩ | ⟨et, w⟩ <;> subst et
      · dsimp only
        cases e2 : b φ p s1 with
        | nx p2 s2 => rw [e2] at w; obtain ⟨m, h1, h2⟩ := w; exact ih m h1 p2 s2 h2
        | ct p2 s2 => rw [e2] at w; obtain ⟨m, h1, h2⟩ := w; exact ih m h1 p2 s2 h2
        | bk p2 s2 => rw [e2] at w; exact w
        | rt v s2 => rw [e2] at w; exact w
        | er C v p2 s2 => rw [e2] at w; exact w.elim
        | bad => rw [e2] at w; exact w.elim
      · exact w
end
end Bi

end
section
set_option Elab.async false
set_option linter.all false
set_option autoImplicit false
set_option maxRecDepth 100000
set_option maxHeartbeats 1000000
/-! Bi38: how states follow each other; garbage in general; equations of the functions of values. -/
namespace Bi
open PySem L2
/-- from s to s': the cells of s stay, but for those of ns -/
structure Fx (ns : List Nat) (s s' : Sg) : Prop where
  len : s.g.length ≤ s'.g.length
  same : ∀ i, i < s.g.length → i ∉ ns → s'.g[i]? = s.g[i]?
theorem Fx.refl {ns : List Nat} {s : Sg} : Fx ns s s := ⟨Nat.le_refl _, fun _ _ _ => rfl⟩
theorem Fx.trans {ns : List Nat} {s s1 s2 : Sg} (h : Fx ns s s1) (k : Fx ns s1 s2) : Fx ns s s2 := ⟨Nat.le_trans h.len k.len, fun i h1 h2 => by rw [k.same i (Nat.lt_of_lt_of_le h1 h.len) h2, h.same i h1 h2]⟩
theorem Fx.mono {ns ms : List Nat} {s s' : Sg} (h : Fx ns s s') (k : ∀ i, i ∈ ns → i < s.g.length → i ∈ ms) : Fx ms s s' := ⟨h.len, fun i h1 h2 => h.same i h1 fun z => h2 (k i z h1)⟩
theorem Fx.nil {ns : List Nat} {s s' : Sg} (h : Fx [] s s') : Fx ns s s' := h.mono fun i z => absurd z List.not_mem_nil
/-- the cells that may change are newer than s -/
theorem Fx.trans' {ns ms : List Nat} {s s1 s2 : Sg} (h : Fx ns s s1) (k : Fx ms s1 s2) (q : ∀ i ∈ ms, i < s.g.length → i ∈ ns) : Fx ns s s2 :=
  ⟨Nat.le_trans h.len k.len, fun i h1 h2 => by rw [k.same i (Nat.lt_of_lt_of_le h1 h.len) fun z => h2 (q i z h1), h.same i h1 h2]⟩
theorem Fx.push {ns : List Nat} {s s1 : Sg} (h : Fx ns s s1) (o : PO) : Fx ns s (s1.push o) := h.trans ⟨by unfold Sg.push; simp, fun i h1 h2 => by unfold Sg.push; exact List.getElem?_append_left h1⟩
theorem Fx.wr {ns : List Nat} {m : Nat} {s s1 : Sg} (h : Fx ns s s1) (o : PO) (q : m < s.g.length → m ∈ ns) : Fx ns s (s1.wr m o) :=
  h.trans' (ms := [m]) ⟨by unfold Sg.wr; simp, fun i h1 h2 => by unfold Sg.wr; exact List.getElem?_set_ne (by simpa using fun z => h2 (by simp [z]))⟩ fun i z hl => by
    simp at z; subst z; exact q hl
theorem Fx.get {ns : List Nat} {i : Nat} {s s' : Sg} {o : PO} (h : Fx ns s s') (e : s.g[i]? = some o) (hi : i ∉ ns) : s'.g[i]? = some o := by
  rw [h.same i (List.getElem?_eq_some_iff.mp e).1 hi]
  exact e
theorem Fx.top {ns : List Nat} {s s' : Sg} (h : Fx ns s.top s') : Fx ns s s' := ⟨h.len, h.same⟩
theorem Fx.low {ns : List Nat} {s s' : Sg} {l : Nat} (h : Fx ns s s') : Fx ns s ⟨s'.g, l⟩ := ⟨h.len, h.same⟩
theorem lt_of_get {s : Sg} {i : Nat} {o : PO} (e : s.g[i]? = some o) : i < s.g.length := (List.getElem?_eq_some_iff.mp e).1
/-- the first n cells are the same -/
structure Kp (n : Nat) (s s' : Sg) : Prop where
  l : n ≤ s.g.length
  len : n ≤ s'.g.length
  same : ∀ i, i < n → s'.g[i]? = s.g[i]?
theorem Kp.get {n i : Nat} {s s' : Sg} {o : PO} (h : Kp n s s') (e : s.g[i]? = some o) (hi : i < n) : s'.g[i]? = some o := by
  rw [h.same i hi]
  exact e
theorem Kp.refl {n : Nat} {s : Sg} (h : n ≤ s.g.length) : Kp n s s := ⟨h, h, fun _ _ => rfl⟩
theorem Fx.kp {ns : List Nat} {s s1 s' : Sg} (h : Fx ns s s1) (k : Kp s.g.length s1 s') : Fx ns s s' := ⟨k.len, fun i h1 h2 => by rw [k.same i h1, h.same i h1 h2]⟩
theorem kp_take {n l : Nat} {s : Sg} (h : n ≤ s.g.length) : Kp n s ⟨s.g.take n, l⟩ := ⟨h, by rw [List.length_take]; exact Nat.le_min.mpr ⟨Nat.le_refl _, h⟩, fun i hi => List.getElem?_take_of_lt hi⟩
theorem kp_move {n l : Nat} {s : Sg} {o : PO} (h : n ≤ s.g.length) : Kp n s ⟨s.g.take n ++ [o], l⟩ := by
  have hl : (s.g.take n).length = n := by rw [List.length_take]; omega
  exact ⟨h, by simp [hl], fun i hi => by
    show (s.g.take n ++ [o])[i]? = _
    rw [List.getElem?_append_left (by omega), List.getElem?_take_of_lt hi]⟩
theorem kp_low {n l : Nat} {s : Sg} (h : n ≤ s.g.length) : Kp n s ⟨s.g, l⟩ := ⟨h, h, fun _ _ => rfl⟩
/-! ### garbage, whatever the mark -/
/-- a value without new references -/
theorem gcv_flat {n low : Nat} {s : Sg} {v : PV} {Q : PV → Sg → Prop} (hl : n ≤ s.g.length) (hv : v.bd 0 = true) (q : ∀ s', Kp n s s' → Q v s') : wpR (gcV n low v s) Q := by
  unfold gcV
  split
  · rw [if_pos (bd_mono (Nat.zero_le _) _ hv)]
    exact q _ (kp_take hl)
  · exact q _ (kp_low hl)
/-- a new cell without references -/
theorem gcv_new {n low m : Nat} {s : Sg} {o : PO} {Q : PV → Sg → Prop} (hl : n ≤ s.g.length) (hm : n ≤ m) (ho : s.g[m]? = some o) (hb : o.bd 0 = true) (q : ∀ m' s', Kp n s s' → n ≤ m' → s'.g[m']? = some o → Q (.ref m') s') : wpR (gcV n low (.ref m) s) Q := by
  have h0 : PV.bd n (.ref m) = false := by rw [PV.bd]; simp; omega
  unfold gcV
  split
  · rw [if_neg (by simp [h0])]
    simp only [ho]
    rw [if_pos (PO.bd_mono (Nat.zero_le _) hb)]
    refine q n _ (kp_move hl) (Nat.le_refl _) ?_
    show (s.g.take n ++ [o])[n]? = _
    have hl2 : (s.g.take n).length = n := by rw [List.length_take]; omega
    rw [List.getElem?_append_right (by omega)]
    simp [hl2]
  · exact q m _ (kp_low hl) hm ho
/-- a new cell with new references -/
theorem gcv_deep {n low m : Nat} {s : Sg} {o : PO} {Q : PV → Sg → Prop} (hm : n ≤ m) (ho : s.g[m]? = some o) (hb : o.bd n = false) (q : ∀ l, Q (.ref m) ⟨s.g, l⟩) : wpR (gcV n low (.ref m) s) Q := by
  have h0 : PV.bd n (.ref m) = false := by rw [PV.bd]; simp; omega
  unfold gcV
  split
  · rw [if_neg (by simp [h0])]
    simp only [ho]
    rw [if_neg (by simp [hb])]
    exact q _
  · exact q _
/-- an old value -/
theorem gcv_old {n low : Nat} {s : Sg} {v : PV} {Q : PV → Sg → Prop} (hl : n ≤ s.g.length) (hv : v.bd n = true) (q : ∀ s', Kp n s s' → Q v s') : wpR (gcV n low v s) Q := by
  unfold gcV
  rw [if_pos hv]
  split
  · exact q _ (kp_take hl)
  · exact q _ (kp_low hl)
/-- a tuple with new references -/
theorem gcv_tup {n low : Nat} {s : Sg} {xs : List PV} {Q : PV → Sg → Prop} (hb : (PV.tup xs).bd n = false) (q : ∀ l, Q (.tup xs) ⟨s.g, l⟩) : wpR (gcV n low (.tup xs) s) Q := by
  unfold gcV
  split
  · rw [if_neg (by simp [hb])]
    exact q _
  · exact q _
/-- a statement's garbage -/
def PQ.gc (n : Nat) (Q : PQ) : PQ where
  nx p s := ∀ s', Kp n s s' → (bdP n p = false → s'.g = s.g) → Q.nx p s'
  rt v s := ∀ s', Kp n s s' → (v.bd n = false → s'.g = s.g) → Q.rt v s'
  bk p s := ∀ s', Kp n s s' → (bdP n p = false → s'.g = s.g) → Q.bk p s'
  ct p s := ∀ s', Kp n s s' → (bdP n p = false → s'.g = s.g) → Q.ct p s'
/-- len: the heap does not shrink -/
def PQ.lb (n : Nat) (Q : PQ) : PQ where
  nx p s := n ≤ s.g.length ∧ Q.nx p s
  rt v s := n ≤ s.g.length ∧ Q.rt v s
  bk p s := n ≤ s.g.length ∧ Q.bk p s
  ct p s := n ≤ s.g.length ∧ Q.ct p s
theorem wpS_gcRS {n low : Nat} {r : RS} {Q : PQ} (h : wpS r ((Q.gc n).lb n)) : wpS (gcRS n low r) Q := by
  cases r with
  | nx p s =>
    obtain ⟨hl, h⟩ := h
    show wpS (if _ then _ else _) Q
    split
    · rename_i c
      exact h _ (kp_take hl) fun z => by rw [c.2] at z; cases z
    · exact h _ (kp_low hl) fun _ => rfl
  | rt p s =>
    obtain ⟨hl, h⟩ := h
    show wpS (if _ then _ else _) Q
    split
    · rename_i c
      exact h _ (kp_take hl) fun z => by rw [c.2] at z; cases z
    · exact h _ (kp_low hl) fun _ => rfl
  | bk p s =>
    obtain ⟨hl, h⟩ := h
    show wpS (if _ then _ else _) Q
    split
    · rename_i c
      exact h _ (kp_take hl) fun z => by rw [c.2] at z; cases z
    · exact h _ (kp_low hl) fun _ => rfl
  | ct p s =>
    obtain ⟨hl, h⟩ := h
    show wpS (if _ then _ else _) Q
    split
    · rename_i c
      exact h _ (kp_take hl) fun z => by rw [c.2] at z; cases z
    · exact h _ (kp_low hl) fun _ => rfl
  | er C v p s => exact h
  | bad => exact h
section
variable {φ : Phi} {p : Sl} {s : Sg}
theorem wpS_gcS {m : MS} {Q : PQ} (h : wpS (m φ p s.top) ((Q.gc s.g.length).lb s.g.length)) : wpS (gcS m φ p s) Q := wpS_gcRS h
end
theorem wpS_mono {r : RS} {Q Q' : PQ} (h : wpS r Q) (h1 : ∀ p s, Q.nx p s → Q'.nx p s) (h2 : ∀ v s, Q.rt v s → Q'.rt v s) (h3 : ∀ p s, Q.bk p s → Q'.bk p s) (h4 : ∀ p s, Q.ct p s → Q'.ct p s) : wpS r Q' := by
  cases r with
  | nx p s => exact h1 _ _ h
  | rt p s => exact h2 _ _ h
  | bk p s => exact h3 _ _ h
  | ct p s => exact h4 _ _ h
  | er C v p s => exact h
  | bad => exact h
@[simp] theorem top_g {s : Sg} : s.top.g = s.g := rfl
@[simp] theorem push_g {s : Sg} {o : PO} : (s.push o).g = s.g ++ [o] := rfl
@[simp] theorem wr_g {s : Sg} {i : Nat} {o : PO} : (s.wr i o).g = s.g.set i o := rfl
@[simp] theorem lk_g {s : Sg} {i : Nat} {kvs : List (Key × PV)} {b : Bool} : (s.lk i kvs b).g = s.g.set i (.dic kvs b) := rfl
theorem push_new {s : Sg} {o : PO} : (s.push o).g[s.g.length]? = some o := by simp
theorem push_old {s : Sg} {o o' : PO} {i : Nat} (h : s.g[i]? = some o') : (s.push o).g[i]? = some o' := by
  rw [push_g, List.getElem?_append_left (lt_of_get h)]
  exact h
theorem wr_same {s : Sg} {o o' : PO} {i : Nat} (h : s.g[i]? = some o') : (s.wr i o).g[i]? = some o := List.getElem?_set_self (lt_of_get h)
theorem wr_ne {s : Sg} {o o' : PO} {i m : Nat} (h : s.g[i]? = some o') (n : m ≠ i) : (s.wr m o).g[i]? = some o' := by
  rw [wr_g, List.getElem?_set_ne n]
  exact h
/-! ### functions of values -/
section
variable {s : Sg}
theorem toD_int {k : Nat} {i : Int} : toD s (k + 1) (.int i) = some (.int i) := by simp [toD]
theorem toD_str {k : Nat} {i : Str} : toD s (k + 1) (.str i) = some (.str i) := by simp [toD]
theorem toD_bl {k : Nat} {i : Bool} : toD s (k + 1) (.bl i) = some (.bool i) := by simp [toD]
theorem toD_non {k : Nat} : toD s (k + 1) .non = some .none := by simp [toD]
theorem toD_tup {k : Nat} {xs : List PV} : toD s (k + 1) (.tup xs) = (xs.mapM (toD s k)).map .tuple := by simp [toD]
theorem toD_lst {k n : Nat} {xs : List PV} (h : s.g[n]? = some (.lst xs)) : toD s (k + 1) (.ref n) = (xs.mapM (toD s k)).map .list := by simp [toD, h]
end
end Bi

end
section
set_option Elab.async false
set_option linter.all false
set_option autoImplicit false
set_option maxRecDepth 100000
set_option maxHeartbeats 1000000
/-! Bi39: rules: calls, comprehensions, loops. -/
namespace Bi
open PySem L2
theorem wp_call {rs : List Row} {j : Nat} {x : Str} {args : List PV} {s : Sg} {Q : PV → Sg → Prop} (r : Row) (m : MS) (n : Nat) (hf : rs.find? (fun r => r.key == x) = some r) (hm : r.m = m) (hn : r.N.length = n) (hl : args.length = r.ps.length)
    (h : wpS (m (Ph rs j) (startP n args) s.top) ⟨fun _ s' => wpR (gcV s.g.length s.low .non s') Q, fun v s' => wpR (gcV s.g.length s.low v s') Q, fun _ _ => False, fun _ _ => False⟩) : wpR (Ph rs (j + 1) x args s) Q := by
  rw [Ph_at hf hl, wpR_run, hm, hn]
  exact h
/-- a comprehension's walk over what does not change old cells -/
theorem wp_lcF {α : Type} {it : Wk} {vs : List Nat} {g : PV → Sl → Option Sl} {t e : ME} {φ : Phi} {p : Sl} {s1 : Sg} {Q : Unit → Sg → Prop} (L : List α) (emb : α → PV) (hL : it.xs = L.map emb) (c : α → Bool) (f : α → PV)
    (hok : ∀ s, Fx [] s1 s → it.ok s) (hsz : L.length < sizeLine)
    (hstep : ∀ y ∈ L, ∀ s, Fx [] s1 s → ∃ p1, g (emb y) (wipeP p vs) = some p1 ∧ wpR (t φ p1 s) fun tv s2 => tv = .bl (c y) ∧ Fx [] s s2 ∧ (c y = true → wpR (e φ p1 s2) fun v s3 => v = f y ∧ Fx [] s2 s3))
    (q : ∀ s, Fx [] s1 s → s.g[s1.g.length]? = some (.lst ((L.filter c).map f)) → Q () s) : wpR (lcM it vs g t e s1.g.length φ p it.xs (s1.push (.lst []))) Q := by
  have key : ∀ (xs pre : List α) (s : Sg), L = pre ++ xs → Fx [] s1 s → s.g[s1.g.length]? = some (.lst ((pre.filter c).map f)) → wpR (lcM it vs g t e s1.g.length φ p (xs.map emb) s) Q := by
    intro xs
    induction xs with
    | nil =>
      intro pre s e1 h1 h2
      rw [List.map_nil]
      unfold lcM
      rw [if_pos (hok s h1)]
      rw [List.append_nil] at e1
      rw [← e1] at h2
      exact q s h1 h2
    | cons x xs ih =>
      intro pre s e1 h1 h2
      rw [List.map_cons]
      unfold lcM
      rw [if_pos (hok s h1)]
      obtain ⟨p1, e2, w⟩ := hstep x (by rw [e1]; simp) s h1
      rw [e2]
      dsimp only
      obtain ⟨tv, s2, e3, h3, h4, h5⟩ := wpR_some w
      rw [e3, h3]
      have hlen : pre.length + (xs.length + 1) < sizeLine := by rw [e1] at hsz; simpa using hsz
      cases hc : c x with
      | false =>
        dsimp only
        refine ih (pre ++ [x]) s2 (by rw [e1]; simp) (h1.trans h4) ?_
        rw [List.filter_append, List.filter_cons_of_neg (by simp [hc])]
        simpa using h4.get h2 (by simp)
      | true =>
        dsimp only
        obtain ⟨v, s3, e4, h6, h7⟩ := wpR_some (h5 hc)
        rw [e4]
        dsimp only
        have h8 := h7.get (h4.get h2 (by simp)) (by simp)
        rw [h8]
        dsimp only
        rw [if_pos (by have := List.length_filter_le c pre; simp; omega)]
        refine ih (pre ++ [x]) _ (by rw [e1]; simp) (((h1.trans h4).trans h7).wr _ fun z => absurd z (Nat.lt_irrefl _)) ?_
        rw [wr_same h8, List.filter_append, List.filter_cons_of_pos (by simp [hc]), h6]
        simp
  rw [hL]
  exact key L [] (s1.push (.lst [])) rfl (Fx.refl.push _) (by simp)
section
variable {φ : Phi} {p : Sl} {s : Sg}
theorem wp_lc0 {mi : MI} {vs : List Nat} {g : PV → Sl → Option Sl} {t e : ME} {Q : PV → Sg → Prop} {it : Wk} {s1 : Sg} (hi : mi φ p s = .ok it s1) (hu : it.unl = none) (h : wpR (lcM it vs g t e s1.g.length φ p it.xs (s1.push (.lst []))) fun _ s2 => Q (.ref s1.g.length) s2) : wpR (mLc mi vs g t e φ p s) Q := by
  unfold mLc
  rw [hi]
  simp only [bind_ok, wpR_bind, hu]
  exact h
theorem wp_for0 {mi : MI} {g : PV → Sl → Option Sl} {b : MS} {Q : PQ} {it : Wk} {s1 : Sg} (hi : mi φ p s = .ok it s1) (hu : it.unl = none) (h : wpS (forM it g b φ it.xs p s1) Q) : wpS (mFor mi g b φ p s) Q := by
  unfold mFor
  rw [hi, R.toS, hu]
  show wpS (forM it g b φ it.xs p s1) Q
  exact h
end
@[simp] theorem wpR_gcE {m : ME} {φ : Phi} {p : Sl} {s : Sg} {Q : PV → Sg → Prop} : wpR (gcE m φ p s) Q = wpR (m φ p s.top) fun v s' => wpR (gcV s.g.length s.low v s') Q := by
  rw [ev_gcE, wpR_gc]
@[simp] theorem mVar_0 {φ : Phi} {v : PV} {p : Sl} {s : Sg} : mVar 0 φ (some v :: p) s = .ok v s := (rfl)
@[simp] theorem mVar_S {φ : Phi} {i : Nat} {o : Option PV} {p : Sl} {s : Sg} : mVar (i + 1) φ (o :: p) s = mVar i φ p s := by
  unfold mVar
  rw [List.getElem?_cons_succ]
end Bi
namespace Bi
open PySem L2 SX
theorem Fx.rt {ns : List Nat} {s : Sg} : Fx ns s s.top := ⟨Nat.le_refl _, fun _ _ _ => rfl⟩
theorem Fx.up {ns : List Nat} {s s1 : Sg} (h : Fx ns s s1) : Fx ns s s1.top := ⟨h.len, h.same⟩
theorem Kp.fx {ns : List Nat} {s s1 s' : Sg} (k : Kp s.g.length s1 s') (h : Fx ns s s1) : Fx ns s s' := h.kp k
section
variable {s : Sg}
theorem canLay_S (cs : List Nat) : (PyData.str (S cs)).canLay0 = cs.all (· < 0x110000) := by
  unfold PyData.canLay0 PyData.strOk
  rw [← Array.all_toList]
/-- texts whose signs are signs -/
def okS (cs : List Nat) : Bool := cs.all (· < 0x110000)
theorem beqi (a b : Int) : (a == b) = decide (a = b) := by
  by_cases h : a = b <;> simp [h]
@[simp] theorem vEq_int {a b : Int} : vEq (.int a) (.int b) s = .ok (.bl (decide (a = b))) s := by
  simp [vEq, eqP, dD, toD, SeqAt.shaped, PyData.canLay0, PyData.depth, PyData.eqv, beqi]
@[simp] theorem vNe_int {a b : Int} : vNe (.int a) (.int b) s = .ok (.bl (!decide (a = b))) s := by
  simp [vNe, eqP, dD, toD, SeqAt.shaped, PyData.canLay0, PyData.depth, PyData.eqv, beqi]
theorem eqv_S {a b : List Nat} : PyData.eqv (.str (S a)) (.str (S b)) = decide (a = b) := by
  unfold PyData.eqv
  exact S_beq_eq
theorem vEq_S {a b : List Nat} (ha : okS a = true) (hb : okS b = true) : vEq (.str (S a)) (.str (S b)) s = .ok (.bl (decide (a = b))) s := by
  simp only [vEq, eqP, dD, toD_str, SeqAt.shaped, canLay_S]
  unfold okS at ha hb
  rw [ha, hb, eqv_S]
  simp [PyData.depth]
theorem vNe_S {a b : List Nat} (ha : okS a = true) (hb : okS b = true) : vNe (.str (S a)) (.str (S b)) s = .ok (.bl (!decide (a = b))) s := by
  simp only [vNe, eqP, dD, toD_str, SeqAt.shaped, canLay_S]
  unfold okS at ha hb
  rw [ha, hb, eqv_S]
  simp [PyData.depth]
end
end Bi
namespace Bi
open PySem L2 SX
section
variable {s : Sg} {a b : Int} {φ : Phi} {T : Tab}
@[simp] theorem vLt_int : vLt (.int a) (.int b) s = .ok (.bl (decide (a < b))) s := (rfl)
@[simp] theorem vLe_int : vLe (.int a) (.int b) s = .ok (.bl (decide (a ≤ b))) s := (rfl)
@[simp] theorem vGt_int : vGt (.int a) (.int b) s = .ok (.bl (decide (b < a))) s := (rfl)
@[simp] theorem vGe_int : vGe (.int a) (.int b) s = .ok (.bl (decide (b ≤ a))) s := (rfl)
@[simp] theorem vAdd_int : vAdd (.int a) (.int b) s = .ok (.int (a + b)) s := (rfl)
@[simp] theorem vSub_int : vSub (.int a) (.int b) s = .ok (.int (a - b)) s := (rfl)
@[simp] theorem vNeg_int : vNeg (.int a) s = .ok (.int (-a)) s := (rfl)
@[simp] theorem vIsN_non : vIsN .non .non s = .ok (.bl true) s := (rfl)
@[simp] theorem vIsN_int : vIsN (.int a) .non s = .ok (.bl false) s := (rfl)
@[simp] theorem vNotN_non : vNotN .non .non s = .ok (.bl false) s := (rfl)
@[simp] theorem vNotN_int : vNotN (.int a) .non s = .ok (.bl true) s := (rfl)
@[simp] theorem vMax_int : vMax [.int a, .int b] s = .ok (.int (max a b)) s := by
  show R.ok (PV.int (if b > a then b else a)) s = R.ok (PV.int (max a b)) s
  have : (if b > a then b else a) = max a b := by omega
  rw [this]
@[simp] theorem vMin_int : vMin [.int a, .int b] s = .ok (.int (min a b)) s := by
  show R.ok (PV.int (if b < a then b else a)) s = R.ok (PV.int (min a b)) s
  have : (if b < a then b else a) = min a b := by omega
  rw [this]
@[simp] theorem vInt_int : Bi.vInt [.int a] s = .ok (.int a) s := (rfl)
@[simp] theorem vInt_bl {t : Bool} : Bi.vInt [.bl t] s = .ok (.int (if t then 1 else 0)) s := (rfl)
@[simp] theorem vLen_tup {xs : List PV} : vLen T φ [.tup xs] s = .ok (.int xs.length) s := (rfl)
@[simp] theorem vLen_lsq {xs : List PV} : vLen T φ [.lsq xs] s = .ok (.int xs.length) s := (rfl)
theorem vLen_S {cs : List Nat} (h : cs.length ≤ sizeLine) : vLen T φ [.str (S cs)] s = .ok (.int cs.length) s := by
  show (if (S cs).length ≤ sizeLine then R.ok (PV.int (S cs).length) s else R.bad) = _
  rw [S_len, if_pos h]
theorem vSl_S {cs : List Nat} {lo hi : Option Int} (h : cs.length ≤ sizeLine) : vSl (.str (S cs)) lo hi s = .ok (.str (cutS (S cs) lo hi)) s := by
  show (if (S cs).length ≤ sizeLine then R.ok (PV.str (cutS (S cs) lo hi)) s else R.bad) = _
  rw [S_len, if_pos h]
theorem vLen_lst {n : Nat} {xs : List PV} (h : s.g[n]? = some (.lst xs)) : vLen T φ [.ref n] s = .ok (.int xs.length) s := by
  simp [vLen, h]
theorem vLen_dic {n : Nat} {xs : List (Key × PV)} {k : Bool} (h : s.g[n]? = some (.dic xs k)) : vLen T φ [.ref n] s = .ok (.int xs.length) s := by
  simp [vLen, h]
@[simp] theorem vIsi_int_int : vIsi [.int a, .ty "int"] s = .ok (.bl true) s := by simp [vIsi, tyName]
@[simp] theorem vIsi_int_bool : vIsi [.int a, .ty "bool"] s = .ok (.bl false) s := by simp [vIsi, tyName]
@[simp] theorem vIsi_str_str {x : Str} : vIsi [.str x, .ty "str"] s = .ok (.bl true) s := by simp [vIsi, tyName]
@[simp] theorem vIsi_tup_tup {x : List PV} : vIsi [.tup x, .ty "tuple"] s = .ok (.bl true) s := by simp [vIsi, tyName]
@[simp] theorem vIter_tup {xs : List PV} : vIter (.tup xs) s = .ok ⟨xs, [], none⟩ s := (rfl)
@[simp] theorem vIter_S {cs : List Nat} : vIter (.str (S cs)) s = .ok ⟨cs.map fun c => .str (S [c]), [], none⟩ s := (rfl)
theorem vIter_lst {n : Nat} {xs : List PV} (h : s.g[n]? = some (.lst xs)) : vIter (.ref n) s = .ok ⟨xs, [(n, .lst xs)], none⟩ s := by simp [vIter, h]
@[simp] theorem chk_none {s0 : Sg} {xs : List PV} {src : List (Nat × PO)} : chk s0 ⟨xs, src, none⟩ s = .ok ⟨xs, src, none⟩ s := (rfl)
@[simp] theorem ev_mI {f : PV → Sg → R Wk} {m : ME} {p : Sl} : mI f m φ p s = ((m φ p s).bind f).bind (chk s) := (rfl)
@[simp] theorem ev_rng1 {ml : ML} {p : Sl} : mRng1 ml φ p s = (ml φ p s).bind vRng1 := (rfl)
@[simp] theorem ev_mLenT {ml : ML} {p : Sl} : mLenT T ml φ p s = (ml φ p s).bind (vLen T φ) := (rfl)
@[simp] theorem ev_mIL {f : List PV → Sg → R Wk} {ml : ML} {p : Sl} : mIL f ml φ p s = (ml φ p s).bind f := (rfl)
@[simp] theorem ev_chain {f g : PV → PV → Sg → R PV} {ma mb mc : ME} {p : Sl} : mChain f g ma mb mc φ p s = (ma φ p s).bind fun a s => (mb φ p s).bind fun b s => (f a b s).bind (onB fun t s => if t = true then (mc φ p s).bind fun c s => g b c s else .ok (.bl false) s) := by
  unfold mChain
  congr; funext a s; congr; funext b s; congr; funext t s; cases t <;> rfl
@[simp] theorem ev_bm {kd : PV → Sg → Bool} {f : PV → List PV → Sg → R PV} {mo : ME} {ml : ML} {p : Sl} : mBM kd f mo ml φ p s = (mo φ p s).bind fun o s => if kd o s then (ml φ p s).bind fun vs s => f o vs s else .bad := (rfl)
@[simp] theorem ev_gN {i : Nat} {y : PV} {p : Sl} : gN i y p = some (sSet p i y) := (rfl)
@[simp] theorem ev_gsN {p : Sl} : gsN [] p = some p := (rfl)
@[simp] theorem ev_gsC {f : PV → Sl → Option Sl} {fs : List PV → Sl → Option Sl} {y : PV} {r : List PV} {p : Sl} : gsC f fs (y :: r) p = (f y p).bind (fs r) := by
  show (match f y p with | some p1 => fs r p1 | none => none) = _
  cases f y p <;> rfl
theorem ev_gT {n : Nat} {fs : List PV → Sl → Option Sl} {ys : List PV} {p : Sl} (h : ys.length = n) : gT n fs (.tup ys) p = fs ys p := by
  unfold gT
  exact if_pos h
@[simp] theorem gT1 {fs : List PV → Sl → Option Sl} {a b : PV} {p : Sl} : gT 2 fs (.tup [a, b]) p = fs [a, b] p := (rfl)
@[simp] theorem gT3 {fs : List PV → Sl → Option Sl} {a b c : PV} {p : Sl} : gT 3 fs (.tup [a, b, c]) p = fs [a, b, c] p := (rfl)
@[simp] theorem wipe_nil {p : Sl} : wipeP p [] = p := (rfl)
@[simp] theorem wipe_cons {p : Sl} {v : Nat} {vs : List Nat} : wipeP p (v :: vs) = sClr (wipeP p vs) v := (rfl)
@[simp] theorem ok_nil {xs : List PV} {u : Option Nat} : Wk.ok ⟨xs, [], u⟩ s ↔ True := by simp [Wk.ok]
@[simp] theorem ok_one {xs : List PV} {u : Option Nat} {n : Nat} {o : PO} : Wk.ok ⟨xs, [(n, o)], u⟩ s ↔ s.g[n]? = some o := by simp [Wk.ok]
theorem mapM_bl : ∀ bs : List Bool, (bs.map PV.bl).mapM asB = some bs
  | [] => rfl
  | b :: bs => by simp [List.mapM_cons, asB, mapM_bl bs]
theorem mapM_int : ∀ bs : List Int, (bs.map PV.int).mapM asI = some bs
  | [] => rfl
  | b :: bs => by simp [List.mapM_cons, asI, mapM_int bs]
theorem vAll_lst {n : Nat} {bs : List Bool} (h : s.g[n]? = some (.lst (bs.map .bl))) : vAll [.ref n] s = .ok (.bl (bs.all id)) s := by
  simp [vAll, vL1, lstOf, h, mapM_bl, -List.mapM_map]
theorem vAny_lst {n : Nat} {bs : List Bool} (h : s.g[n]? = some (.lst (bs.map .bl))) : vAny [.ref n] s = .ok (.bl (bs.any id)) s := by
  simp [vAny, vL1, lstOf, h, mapM_bl, -List.mapM_map]
theorem flat_S : ∀ xs : List (List Nat), (xs.map fun x => PV.str (S x)).mapM flatP = some (xs.map fun x => V.str (S x))
  | [] => rfl
  | x :: xs => by simp [List.mapM_cons, flatP, flat_S xs]
theorem eqVS {a b : List Nat} : eqV (.str (S a)) (.str (S b)) = decide (a = b) := by
  show (S a == S b) = _
  exact S_beq_eq
/-- a text in a tuple of texts -/
theorem vIn_tupS {c : List Nat} {xs : List (List Nat)} : vIn (.str (S c)) (.tup (xs.map fun x => .str (S x))) s = .ok (.bl (decide (c ∈ xs))) s := by
  have h : (xs.map fun x => V.str (S x)).all flatV = true := by simp [flatV]
  have h2 : inV (V.str (S c)) (xs.map fun x => V.str (S x)) = decide (c ∈ xs) := by
    unfold inV
    rw [List.any_map]
    induction xs with
    | nil => rfl
    | cons x xs ih =>
      rw [List.any_cons, ih (by simp [flatV])]
      simp only [Function.comp, eqVS, List.mem_cons, eq_comm (a := c)]
      by_cases e : x = c <;> simp [e]
  have h3 : flatV (V.str (S c)) = true := (rfl)
  simp only [vIn, inP, flatIn, flatP, flat_S, h, h2, h3, Bool.and_self, if_true]
theorem vIn_sgn {c : Nat} {z : List Nat} : vIn (.str (S [c])) (.str (S z)) s = .ok (.bl (decide (c ∈ z))) s := by
  simp [vIn, inP]
end
end Bi
namespace Bi
open PySem L2 SX
/-- the same without a test -/
theorem wp_lcT {α : Type} {it : Wk} {vs : List Nat} {g : PV → Sl → Option Sl} {e : ME} {φ : Phi} {p : Sl} {s1 : Sg} {Q : Unit → Sg → Prop} (L : List α) (emb : α → PV) (hL : it.xs = L.map emb) (f : α → PV)
    (hok : ∀ s, Fx [] s1 s → it.ok s) (hsz : L.length < sizeLine)
    (hstep : ∀ y ∈ L, ∀ s, Fx [] s1 s → ∃ p1, g (emb y) (wipeP p vs) = some p1 ∧ wpR (e φ p1 s) fun v s3 => v = f y ∧ Fx [] s s3)
    (q : ∀ s, Fx [] s1 s → s.g[s1.g.length]? = some (.lst (L.map f)) → Q () s) : wpR (lcM it vs g (mC (.bl true)) e s1.g.length φ p it.xs (s1.push (.lst []))) Q := by
  refine wp_lcF L emb hL (fun _ => true) f hok hsz (fun y hy s E => ?_) fun s E h => q s E ?_
  · obtain ⟨p1, e1, w⟩ := hstep y hy s E
    exact ⟨p1, e1, rfl, Fx.refl, fun _ => w⟩
  · rw [List.filter_eq_self.mpr (fun _ _ => rfl)] at h
    exact h
end Bi
namespace Bi
open PySem L2 SX
/-- the state behind garbage of which a flat value is left -/
def gcst (n low : Nat) (s : Sg) : Sg := if n ≤ s.low then ⟨s.g.take n, low⟩ else ⟨s.g, min low s.low⟩
theorem gcV_flat {n low : Nat} {v : PV} {s : Sg} (h : v.bd 0 = true) : gcV n low v s = .ok v (gcst n low s) := by
  unfold gcV gcst
  rw [if_pos (bd_mono (Nat.zero_le _) _ h)]
  split <;> rfl
@[simp] theorem gcV_bl {n low : Nat} {b : Bool} {s : Sg} : gcV n low (.bl b) s = .ok (.bl b) (gcst n low s) := gcV_flat (by rw [PV.bd])
@[simp] theorem gcV_int {n low : Nat} {b : Int} {s : Sg} : gcV n low (.int b) s = .ok (.int b) (gcst n low s) := gcV_flat (by rw [PV.bd])
@[simp] theorem gcV_str {n low : Nat} {b : Str} {s : Sg} : gcV n low (.str b) s = .ok (.str b) (gcst n low s) := gcV_flat (by rw [PV.bd])
@[simp] theorem gcV_non {n low : Nat} {s : Sg} : gcV n low .non s = .ok .non (gcst n low s) := gcV_flat (by rw [PV.bd])
section
variable {n low : Nat} {s : Sg}
@[simp] theorem gcst_g (h : s.g.length ≤ n) : (gcst n low s).g = s.g := by
  unfold gcst
  split
  · exact List.take_of_length_le h
  · rfl
theorem gcst_kp (h : n ≤ s.g.length) : Kp n s (gcst n low s) := by
  unfold gcst
  split
  · exact kp_take h
  · exact kp_low h
theorem gcst_get {i : Nat} (h : i < n) : (gcst n low s).g[i]? = s.g[i]? := by
  unfold gcst
  split
  · exact List.getElem?_take_of_lt h
  · rfl
theorem Fx.gc {ns : List Nat} {s s1 : Sg} (E : Fx ns s s1) (h : s.g.length ≤ n) (h2 : n ≤ s1.g.length) : Fx ns s (gcst n low s1) :=
  ⟨Nat.le_trans h (gcst_kp h2).len, fun i h3 h4 => by rw [gcst_get (Nat.lt_of_lt_of_le h3 h)]; exact E.same i h3 h4⟩
theorem Fx.gc0 {ns : List Nat} {s s1 : Sg} (E : Fx ns s s1) : Fx ns s (gcst s.g.length low s1) := E.gc (Nat.le_refl _) E.len
end
end Bi
namespace Bi
open PySem L2 SX
section
variable {s : Sg} {m n : Nat} {xs zs : List PV} {v : PV}
theorem append_ok (h : s.g[m]? = some (.lst xs)) (hl : xs.length < 1000000) : vAppend (.ref m) [v] s = .ok .non (s.wr m (.lst (xs ++ [v]))) := by
  simp only [vAppend, atL, h]
  exact if_pos (Nat.lt_of_lt_of_le hl (by decide))
theorem extend_ok (h : s.g[m]? = some (.lst xs)) (h2 : s.g[n]? = some (.lst zs)) (hl : xs.length + zs.length < 1000000) : vExtend (.ref m) [.ref n] s = .ok .non (s.wr m (.lst (xs ++ zs))) := by
  simp only [vExtend, atL, h, h2]
  exact if_pos (Nat.le_trans (Nat.le_of_lt hl) (by decide))
theorem addL_ok (h : s.g[m]? = some (.lst xs)) (h2 : s.g[n]? = some (.lst zs)) (hl : xs.length + zs.length < 1000000) : vAdd (.ref m) (.ref n) s = .ok (.ref s.g.length) (s.push (.lst (xs ++ zs))) := by
  simp only [vAdd, h, h2]
  exact if_pos (Nat.le_trans (Nat.le_of_lt hl) (by decide))
theorem addS_ok {a b : List Nat} (hl : a.length + b.length < 1000000) : vAdd (.str (S a)) (.str (S b)) s = .ok (.str (S (a ++ b))) s := by
  show (if (S a).length + (S b).length ≤ sizeLine then R.ok (PV.str (S a ++ S b)) s else R.bad) = _
  rw [S_len, S_len, S_cat, if_pos (Nat.le_trans (Nat.le_of_lt hl) (by decide))]
theorem kdLst_ok (h : s.g[m]? = some (.lst xs)) : kdLst (.ref m) s = true := by simp [kdLst, h]
theorem ixL {i : Int} (h : s.g[m]? = some (.lst xs)) {x : PV} (e : atI xs i = some x) : vIx (.ref m) (.int i) s = .ok x s := by
  simp [vIx, h, e, opt]
theorem ixD {kvs : List (Key × PV)} {b : Bool} {k : PV} {kk : Key} (h : s.g[m]? = some (.dic kvs b)) (hk : keyOf k = some kk) {x : PV} (e : dGet kvs kk = some x) : vIx (.ref m) k s = .ok x s := by
  simp [vIx, h, hk, e, opt]
theorem ixT {i : Int} {x : PV} (e : atI xs i = some x) : vIx (.tup xs) (.int i) s = .ok x s := by
  simp [vIx, e, opt]
@[simp] theorem atI0 {α : Type} {x : α} {l : List α} : atI (x :: l) 0 = some x := by
  simp [atI, ixN]
@[simp] theorem atI1 {α : Type} {x y : α} {l : List α} : atI (x :: y :: l) 1 = some y := by
  have : (1 : Int) < (l.length : Int) + 1 + 1 := by omega
  simp [atI, ixN, this]
theorem atI_in {α : Type} {xs : List α} {d : Int} (h1 : 0 ≤ d) (h2 : d < xs.length) : ∃ x, atI xs d = some x ∧ x ∈ xs := by
  have hl : d.toNat < xs.length := by omega
  refine ⟨xs[d.toNat], ?_, List.getElem_mem _⟩
  unfold atI ixN
  rw [if_pos h1, if_pos h2]
  simp [hl]
theorem atI_nat {α : Type} {xs : List α} {d : Nat} (h2 : d < xs.length) : atI xs (d : Int) = some xs[d] := by
  unfold atI ixN
  rw [if_pos (by omega), if_pos (by omega)]
  simp [h2]
theorem atI_last {α : Type} {xs : List α} {x : α} : atI (xs ++ [x]) (-1) = some x := by
  have h : -((xs ++ [x]).length : Int) ≤ -1 := by simp; omega
  have h2 : ((-1 : Int) + ((xs ++ [x]).length : Int)).toNat = xs.length := by simp; omega
  unfold atI ixN
  rw [if_neg (by decide), if_pos h, Option.bind_some, h2]
  simp
theorem rng_ok {a : Int} (h0 : 0 ≤ a) (h1 : a < 1000000) : vRng1 [.int a] s = .ok ⟨rngP 0 a.toNat, [], none⟩ s := by
  have hs : smallI a = true := by
    unfold smallI
    simp only [Bool.and_eq_true, decide_eq_true_eq]
    omega
  simp only [vRng1, hs, if_true]
theorem len_rngP {lo : Int} {n : Nat} : (rngP lo n).length = n := by simp [rngP]
theorem pop_ok {d : Int} (h : s.g[m]? = some (.lst xs)) (h0 : 0 ≤ d) (h1 : d < xs.length) (h2 : xs.length < 1000000) : vPopAt (.ref m) [.int d] s = .ok (xs[d.toNat]'(by omega)) (s.wr m (.lst (xs.eraseIdx d.toNat))) := by
  have h4 : ok63 d = true := by
    unfold ok63
    simp only [Bool.and_eq_true, decide_eq_true_eq]
    omega
  have h5 : seqIndex? d xs.length = some d.toNat := by
    unfold seqIndex?
    simp [show ¬ d < 0 by omega, h0, h1]
  simp only [vPopAt, atL, h, h4, if_true, h5]
  rw [List.getElem?_eq_getElem (by omega)]
end
theorem perm_erase0 {α : Type} : ∀ (l : List α) (k : Nat) (h : k < l.length), (l[k] :: l.eraseIdx k).Perm l
  | x :: l, 0, _ => by simp
  | x :: l, k + 1, h => by
    have := perm_erase0 l k (by simpa using h)
    simp only [List.getElem_cons_succ, List.eraseIdx_cons_succ]
    exact (List.Perm.swap x _ _).trans (this.cons x)
theorem perm_erase {α : Type} : ∀ (l1 l2 : List α) (k : Nat) (h : k < l2.length), (l1 ++ [l2[k]] ++ l2.eraseIdx k).Perm (l1 ++ l2) := by
  intro l1 l2 k h
  rw [List.append_assoc]
  exact List.Perm.append_left l1 (perm_erase0 l2 k h)
theorem bds_map {α : Type} {emb : α → PV} (h : ∀ x, (emb x).bd 0 = true) (n : Nat) (l : List α) : (PO.lst (l.map emb)).bd n = true := by
  simp only [PO.bd, List.all_map, List.all_eq_true]
  exact fun x _ => bd_mono (Nat.zero_le _) _ (h x)
end Bi
namespace Bi
theorem erase_map {α β : Type} (f : α → β) : ∀ (l : List α) (k : Nat), (l.map f).eraseIdx k = (l.eraseIdx k).map f
  | [], _ => rfl
  | x :: l, 0 => rfl
  | x :: l, k + 1 => by simp [List.eraseIdx_cons_succ, erase_map f l k]
end Bi
namespace Bi
/-- from s to s1, on to s2, garbage dropped: to s' -/
theorem Fx.kp' {ns ms : List Nat} {s s1 s2 s' : Sg} (E : Fx ns s s1) (F : Fx ms s1 s2) (K : Kp s1.g.length s2 s') (q : ∀ i ∈ ms, i < s.g.length → i ∈ ns := by simp) : Fx ns s s' := E.trans' (F.kp K) q
end Bi
namespace Bi
open PySem L2 SX
def asgO (o : Option Sl) (s : Sg) : RS := match o with | some p => .nx p s | none => .bad
@[simp] theorem asgO_some {p : Sl} {s : Sg} : asgO (some p) s = .nx p s := (rfl)
section
variable {φ : Phi} {p : Sl} {s : Sg} {T : Tab}
@[simp] theorem ev_asg {m : ME} {f : PV → Sl → Option Sl} : mAsg m f φ p s = (m φ p s).toS p fun v s => asgO (f v p) s := by
  unfold mAsg
  congr
@[simp] theorem ev_asgL {m : ME} {n : Nat} {fs : List PV → Sl → Option Sl} : mAsgL m n fs φ p s = (m φ p s).toS p fun v s => asgO (gLs n fs s v p) s := by
  unfold mAsgL
  congr
theorem gLs_ok {n m : Nat} {fs : List PV → Sl → Option Sl} {xs : List PV} (h : s.g[m]? = some (.lst xs)) (hl : xs.length = n) : gLs n fs s (.ref m) p = fs xs p := by
  simp [gLs, lstOf, h, hl]
/-- attributes -/
theorem attr_ok {f : Str} {n : Nat} {C : Str} {fs : List (Str × PV)} {v : PV} (h : s.g[n]? = some (.ins C fs)) (hT : T.attr C f = true) (e : dGet fs f = some v) : vAttr T φ f (.ref n) s = .ok v s := by
  simp [vAttr, h, hT, e, opt]
theorem prop_ok {f : Str} {n : Nat} {C : Str} {fs : List (Str × PV)} (h : s.g[n]? = some (.ins C fs)) (hT : T.attr C f = false) (hP : T.prop C f = true) {Q : PV → Sg → Prop} (w : wpR (φ (qn C f) [.ref n] s) Q) : wpR (vAttr T φ f (.ref n) s) Q := by
  have e : vAttr T φ f (.ref n) s = noErr (φ (qn C f) [.ref n] s) := by simp [vAttr, h, hT, hP]
  rw [e]
  obtain ⟨v, s', e2, hq⟩ := wpR_some w
  rw [e2]
  exact hq
@[simp] theorem ev_attr {f : Str} {m : ME} : mAttr T f m φ p s = (m φ p s).bind (vAttr T φ f) := (rfl)
theorem setAt_ok {f : Str} {n : Nat} {C : Str} {fs : List (Str × PV)} {v : PV} (h : s.g[n]? = some (.ins C fs)) (hT : T.attr C f = true) (hl : fs.length < 1000) : vSetAt T f (.ref n) v s = .ok .non (s.wr n (.ins C (fPut f v fs))) := by
  simp [vSetAt, h, hT, hl]
@[simp] theorem ev_setAt {f : Str} {m mo : ME} : mSetAt T f m mo φ p s = (m φ p s).toS p fun v s => (mo φ p s).toS p fun o s => (vSetAt T f o v s).toS p fun _ s => .nx p s := (rfl)
def methO (φ : Phi) (ml : ML) (p : Sl) (dps : Str → List PV) (o : PV) (s : Sg) (q : Option Str) : R PV := match q with
  | some q => (ml φ p s).bind fun vs s => φ q (o :: (vs ++ dps q)) s
  | none => .bad
@[simp] theorem methO_some {ml : ML} {dps : Str → List PV} {o : PV} {q : Str} : methO φ ml p dps o s (some q) = (ml φ p s).bind fun vs s => φ q (o :: (vs ++ dps q)) s := (rfl)
@[simp] theorem ev_meth {dps : Str → List PV} {m : Str} {mo : ME} {ml : ML} : mMeth T dps m mo ml φ p s = (mo φ p s).bind fun o s => methO φ ml p dps o s (vMeth T m o s) := by
  unfold mMeth methO
  congr
theorem meth_ok {n : Nat} {m C : Str} {fs : List (Str × PV)} (h : s.g[n]? = some (.ins C fs)) (hT : T.meth C m = true) (hd : (dGet fs m).isNone = true) : vMeth T m (.ref n) s = some (qn C m) := by
  simp [vMeth, h, hT, hd]
@[simp] theorem ev_make {C : Str} {dps : List PV} {ml : ML} : mMake C dps ml φ p s = (ml φ p s).bind fun vs s => vMake C φ (vs ++ dps) s := (rfl)
theorem make_ok {C : Str} {args : List PV} {Q : PV → Sg → Prop} (w : wpR (φ (qn C (Str.ofString "__init__")) (.ref s.g.length :: args) (s.push (.ins C []))) fun v s' => v = .non ∧ Q (.ref s.g.length) s') : wpR (vMake C φ args s) Q := by
  unfold vMake
  obtain ⟨v, s', e, rfl, hq⟩ := wpR_some w
  rw [e]
  exact hq
end
end Bi

end
section
set_option Elab.async false
set_option linter.all false
set_option autoImplicit false
set_option maxRecDepth 100000
set_option maxHeartbeats 1000000
/-! Bi40: lists compared with [], texts in lists, data of values. -/
namespace Bi
open PySem L2 SX
abbrev sPV (x : List Nat) : PV := .str (S x)
abbrev afPV (p : List Nat × List Nat) : PV := .tup [.str (S p.1), .str (S p.2)]
theorem canLayAll_of : ∀ ds : List PyData, (∀ d ∈ ds, d.canLay0 = true) → PyData.canLayAll0 ds = true
  | [], _ => by simp [PyData.canLayAll0]
  | d :: ds, h => by simp [PyData.canLayAll0, h d (by simp), canLayAll_of ds fun x hx => h x (by simp [hx])]
theorem depthAll_of {n : Nat} : ∀ ds : List PyData, (∀ d ∈ ds, d.depth ≤ n) → PyData.depthAll ds ≤ n
  | [], _ => by simp [PyData.depthAll]
  | d :: ds, h => by
    simp only [PyData.depthAll]
    exact Nat.max_le.mpr ⟨h d (by simp), depthAll_of ds fun x hx => h x (by simp [hx])⟩
theorem shaped_list {ds : List PyData} (h1 : ∀ d ∈ ds, d.canLay0 = true) (h2 : ∀ d ∈ ds, d.depth ≤ 10) : SeqAt.shaped (.list ds) = true := by
  have h3 := depthAll_of ds h2
  refine Bool.and_eq_true_iff.mpr ⟨?_, decide_eq_true ?_⟩
  · simp only [PyData.canLay0, canLayAll_of ds h1]
  · simp only [PyData.depth]
    omega
theorem shaped_tuple {ds : List PyData} (h1 : ∀ d ∈ ds, d.canLay0 = true) (h2 : ∀ d ∈ ds, d.depth ≤ 10) : SeqAt.shaped (.tuple ds) = true := by
  have h3 := depthAll_of ds h2
  refine Bool.and_eq_true_iff.mpr ⟨?_, decide_eq_true ?_⟩
  · simp only [PyData.canLay0, canLayAll_of ds h1]
  · simp only [PyData.depth]
    omega
theorem mapM_toD {α : Type} {s : Sg} {k : Nat} {emb : α → PV} {dat : α → PyData} (h : ∀ x, toD s k (emb x) = some (dat x)) : ∀ xs : List α, (xs.map emb).mapM (toD s k) = some (xs.map dat)
  | [] => rfl
  | x :: xs => by
    rw [List.map_cons, List.mapM_cons, h x, mapM_toD h xs]
    rfl
theorem ne_nil {α : Type} {s : Sg} {a b : Nat} {xs : List α} {emb : α → PV} {dat : α → PyData} (h : ∀ x, toD s 59 (emb x) = some (dat x)) (h1 : ∀ x ∈ xs, (dat x).canLay0 = true) (h2 : ∀ x ∈ xs, (dat x).depth ≤ 10) (ha : s.g[a]? = some (.lst (xs.map emb))) (hb : s.g[b]? = some (.lst [])) :
    vNe (.ref a) (.ref b) s = .ok (.bl (!xs.isEmpty)) s := by
  have e1 : toD s dD (.ref a) = some (.list (xs.map dat)) := by
    show toD s (59 + 1) (.ref a) = _
    rw [toD_lst ha, mapM_toD h]
    rfl
  have e2 : toD s dD (.ref b) = some (.list []) := by
    show toD s (59 + 1) (.ref b) = _
    rw [toD_lst hb]
    rfl
  have e3 : SeqAt.shaped (.list (xs.map dat)) = true := shaped_list (by simpa using h1) (by simpa using h2)
  have e4 : SeqAt.shaped (.list []) = true := shaped_list (by simp) (by simp)
  have e5 : PyData.eqv (.list (xs.map dat)) (.list []) = xs.isEmpty := by
    cases xs <;> simp [PyData.eqv, PyData.eqvAll]
  simp only [vNe, eqP, e1, e2, e3, e4, e5, Bool.and_self, if_true]
theorem toD_sPV {s : Sg} {x : List Nat} : toD s 59 (sPV x) = some (.str (S x)) := toD_str (k := 58)
theorem toD_iPV {s : Sg} {x : Int} : toD s 59 (.int x) = some (.int x) := toD_int (k := 58)
theorem toD_prPV {s : Sg} {p : Int × Int} : toD s 59 (prPV p) = some (.tuple [.int p.1, .int p.2]) := by
  show toD s (58 + 1) (.tup [.int p.1, .int p.2]) = _
  rw [toD_tup]
  simp [List.mapM_cons, toD_int (k := 57)]
theorem ne_nilS {s : Sg} {a b : Nat} {xs : List (List Nat)} (ho : ∀ x ∈ xs, okS x = true) (ha : s.g[a]? = some (.lst (xs.map sPV))) (hb : s.g[b]? = some (.lst [])) : vNe (.ref a) (.ref b) s = .ok (.bl (!xs.isEmpty)) s :=
  ne_nil (dat := fun x => .str (S x)) (fun x => toD_sPV) (fun x hx => by rw [canLay_S]; exact ho x hx) (fun x _ => by simp [PyData.depth]) ha hb
theorem ne_nilI {s : Sg} {a b : Nat} {xs : List Int} (ha : s.g[a]? = some (.lst (xs.map .int))) (hb : s.g[b]? = some (.lst [])) : vNe (.ref a) (.ref b) s = .ok (.bl (!xs.isEmpty)) s :=
  ne_nil (dat := fun x => .int x) (fun x => toD_iPV) (fun x hx => by simp [PyData.canLay0]) (fun x _ => by simp [PyData.depth]) ha hb
theorem ne_nilP {s : Sg} {a b : Nat} {xs : List (Int × Int)} (ha : s.g[a]? = some (.lst (xs.map prPV))) (hb : s.g[b]? = some (.lst [])) : vNe (.ref a) (.ref b) s = .ok (.bl (!xs.isEmpty)) s :=
  ne_nil (dat := fun p => .tuple [.int p.1, .int p.2]) (fun x => toD_prPV) (fun x hx => by simp [PyData.canLay0, PyData.canLayAll0]) (fun x _ => by simp [PyData.depth, PyData.depthAll]) ha hb
theorem inV_S {c : List Nat} {xs : List (List Nat)} : inV (V.str (S c)) (xs.map fun x => V.str (S x)) = decide (c ∈ xs) := by
  unfold inV
  rw [List.any_map]
  induction xs with
  | nil => rfl
  | cons x xs ih =>
    rw [List.any_cons, ih]
    simp only [Function.comp, eqVS, List.mem_cons, eq_comm (a := c)]
    by_cases e : x = c <;> simp [e]
theorem flatIn_S {c : List Nat} {xs : List (List Nat)} : flatIn (sPV c) (xs.map sPV) = some (decide (c ∈ xs)) := by
  have h : (xs.map fun x => V.str (S x)).all flatV = true := by simp [flatV]
  have h3 : flatV (V.str (S c)) = true := rfl
  simp only [flatIn, flatP, flat_S, h, h3, inV_S, Bool.and_self, if_true]
theorem in_lstS {s : Sg} {a : Nat} {c : List Nat} {xs : List (List Nat)} (ha : s.g[a]? = some (.lst (xs.map sPV))) : vIn (sPV c) (.ref a) s = .ok (.bl (decide (c ∈ xs))) s := by
  simp only [vIn, inP, ha, flatIn_S]
theorem notin_lstS {s : Sg} {a : Nat} {c : List Nat} {xs : List (List Nat)} (ha : s.g[a]? = some (.lst (xs.map sPV))) : vNotIn (sPV c) (.ref a) s = .ok (.bl (!decide (c ∈ xs))) s := by
  simp only [vNotIn, inP, ha, flatIn_S]
theorem pop_last {s : Sg} {a : Nat} {xs : List PV} {x : PV} (ha : s.g[a]? = some (.lst (xs ++ [x]))) : vPop (.ref a) [] s = .ok x (s.wr a (.lst xs)) := by
  simp [vPop, atL, ha]
theorem sPV_bd {x : List Nat} : (sPV x).bd 0 = true := by simp [PV.bd]
theorem prPV_bd {x : Int × Int} : (prPV x).bd 0 = true := by simp [prPV, PV.bd, PV.bds]
theorem afPV_bd {x : List Nat × List Nat} : (afPV x).bd 0 = true := by simp [PV.bd, PV.bds]
end Bi
namespace Bi
open PySem L2 SX
/-! ### whole numbers as texts -/
def numI (i : Int) : List Nat := if i < 0 then 45 :: TL.numL i.natAbs else TL.numL i.natAbs
theorem toString_neg (n : Nat) : toString (Int.negSucc n) = "-" ++ toString (n + 1) := rfl
theorem numI_S (i : Int) : Str.ofString (toString i) = S (numI i) := by
  cases i with
  | ofNat n =>
    have : numI (Int.ofNat n) = TL.numL n := by
      unfold numI
      rw [if_neg (by simp)]
      rfl
    rw [this]
    exact num_S n
  | negSucc n =>
    have : numI (Int.negSucc n) = 45 :: TL.numL (n + 1) := by
      unfold numI
      rw [if_pos (Int.negSucc_lt_zero n)]
      rfl
    rw [this, toString_neg]
    refine TL.ext_tl ?_
    have h1 := TL.tl_ofString ("-" ++ toString (n + 1))
    rw [h1]
    have h2 := TL.tl_ofString (toString ((n + 1 : Nat) : Int))
    have h3 := TL.tl_num (n + 1)
    rw [h2] at h3
    show (("-" ++ toString (n + 1)).toList).map Char.toNat = 45 :: TL.numL (n + 1)
    rw [String.toList_append, List.map_append, ← h3]
    rfl
theorem numI_digits (i : Int) : ∀ c ∈ numI i, c = 45 ∨ (48 ≤ c ∧ c ≤ 57) := by
  intro c hc
  have hd := TL.numL_digits i.natAbs
  unfold numI at hc
  split at hc
  · rcases List.mem_cons.mp hc with h | h
    · exact .inl h
    · exact .inr (hd c h)
  · exact .inr (hd c hc)
theorem numI_free {i : Int} {c : Nat} (h1 : c ≠ 45) (h2 : c < 48 ∨ 57 < c) : c ∉ numI i := fun h => by
  rcases numI_digits i c h with h | h
  · exact h1 h
  · omega
theorem numI_ok (i : Int) : okS (numI i) = true := List.all_eq_true.mpr fun c hc => by
  have := numI_digits i c hc
  simp
  omega
theorem numI_len {i : Int} (h1 : -1000000000000 < i) (h2 : i < 1000000000000) : (numI i).length ≤ 13 := by
  have h := TL.numL_len (n := i.natAbs) (k := 12) (by decide) (by omega)
  unfold numI
  split
  · simp; omega
  · omega
theorem numI_ne (i : Int) : numI i ≠ [] := by
  unfold numI
  split
  · simp
  · exact TL.numL_ne _
end Bi
namespace Bi
open PySem L2 SX
def fig (cs : List Nat) : List Nat := if cs.take 1 = [45] then cs.drop 1 else cs
def dg (c : Nat) : Bool := decide (48 ≤ c) && decide (c ≤ 57)
def isNum (cs : List Nat) : Bool := !(fig cs).isEmpty && (fig cs).all dg && !(decide ((fig cs).head? = some 48) && decide (cs ≠ [48]))
theorem numL_head : ∀ n : Nat, n ≠ 0 → (TL.numL n).head? ≠ some 48 := by
  intro n
  induction n using Nat.strongRecOn with
  | ind n ih =>
    intro hn
    by_cases h : n < 10
    · rw [TL.numL_lt h]
      simp
      omega
    · rw [TL.numL_step (by omega)]
      have := ih (n / 10) (by omega) (by omega)
      rw [List.head?_append]
      have hne := TL.numL_ne (n / 10)
      cases e : TL.numL (n / 10) with
      | nil => exact absurd e hne
      | cons c r =>
        rw [e] at this
        simpa using this
theorem numL_ne45 (n : Nat) : (TL.numL n).take 1 ≠ [45] := by
  have hd := TL.numL_digits n
  cases e : TL.numL n with
  | nil => simp
  | cons c r =>
    have := hd c (by rw [e]; simp)
    simp
    omega
theorem fig_numI (i : Int) : fig (numI i) = TL.numL i.natAbs := by
  unfold fig numI
  split
  · simp
  · rw [if_neg (numL_ne45 _)]
theorem isNum_numI (i : Int) : isNum (numI i) = true := by
  unfold isNum
  rw [fig_numI]
  have h1 : (TL.numL i.natAbs).isEmpty = false := by
    cases e : TL.numL i.natAbs with
    | nil => exact absurd e (TL.numL_ne _)
    | cons => rfl
  have h2 : (TL.numL i.natAbs).all dg = true := List.all_eq_true.mpr fun c hc => by
    have := TL.numL_digits i.natAbs c hc
    unfold dg
    simp
    omega
  by_cases h0 : i.natAbs = 0
  · have e : i = 0 := by omega
    subst e
    rfl
  · have h3 := numL_head _ h0
    simp [h1, h2, h3]
theorem int_numI {i : Int} (h1 : -1000000000000 < i) (h2 : i < 1000000000000) : intText? (S (numI i)) = some i := by
  have hl := TL.numL_len (n := i.natAbs) (k := 12) (by decide) (by omega)
  unfold numI
  split
  · rename_i h
    have e := PySem.intText_neg (x := S (45 :: TL.numL i.natAbs)) (cs := TL.numL i.natAbs) rfl (TL.numL_digits _) (TL.numL_ne _) (by rw [S_len]; simp; omega)
    rw [e, TL.numL_val]
    congr 1
    omega
  · have e := PySem.intText_digits (x := S (TL.numL i.natAbs)) (TL.numL_digits _) (TL.numL_ne _) (by rw [S_len]; omega)
    rw [e]
    show some ((NumText.digitsVal (TL.numL i.natAbs) : Nat) : Int) = some i
    rw [TL.numL_val]
    congr 1
    omega
theorem isNum_name {c : List Nat} (h1 : 0 < c.length) (h3 : ∀ x ∈ c, 97 ≤ x ∧ x ≤ 122) : isNum c = false := by
  cases c with
  | nil => simp at h1
  | cons a r =>
    have ha := h3 a (by simp)
    have hf : fig (a :: r) = a :: r := by
      unfold fig
      rw [if_neg (by simp; omega)]
    unfold isNum
    rw [hf]
    have : dg a = false := by unfold dg; simp; omega
    simp [this]
end Bi
namespace Bi
open PySem L2 SX
section
variable {φ : Phi} {p : Sl} {s : Sg}
@[simp] theorem ev_methD {d : TD} {j : Nat} {mm : Str} {mo : ME} {ml : ML} : mMethD d j mm mo ml φ p s = (mo φ p s).bind fun o s => methO φ ml p (d.dps j) o s (vMeth d.tab mm o s) := ev_meth
def cidxK (wds : List Str) (v : PV) (s : Sg) : R PV := match v with
  | .str z => (match idxS z wds with | some j => .ok (.int (j : Nat)) s | none => .bad)
  | _ => .bad
@[simp] theorem ev_cidx {wds : List Str} {m : ME} : mCIdx wds m φ p s = (m φ p s).bind (cidxK wds) := (rfl)
theorem cidx_ok {wds : List Str} {z : Str} {j : Nat} (h : idxS z wds = some j) : cidxK wds (.str z) s = .ok (.int (j : Nat)) s := by
  simp [cidxK, h]
theorem vNotIn_tupS {c : List Nat} {xs : List (List Nat)} : vNotIn (.str (S c)) (.tup (xs.map fun x => .str (S x))) s = .ok (.bl (!decide (c ∈ xs))) s := by
  have h : (xs.map fun x => V.str (S x)).all flatV = true := by simp [flatV]
  have h3 : flatV (V.str (S c)) = true := rfl
  simp only [vNotIn, inP, flatIn, flatP, flat_S, h, h3, inV_S, Bool.and_self, if_true]
/-- a text split -/
theorem split_ok {ws : List (List Nat)} (c : Nat) (hc : c < 256) (hne : ws ≠ []) (hf : ∀ w ∈ ws, c ∉ w) (hl : (TL.joinL [c] ws).length < 1000000) : vSplit (.str (S (TL.joinL [c] ws))) [.str (S [c])] s = .ok (.ref s.g.length) (s.push (.lst (ws.map sPV))) := by
  have h1 : ((S [c]).length == 0) = false := by rw [S_len]; rfl
  have h2 : (S (TL.joinL [c] ws)).length + 2 ≤ sizeLine := by rw [S_len]; exact Nat.le_trans (by omega) (show 1000002 ≤ sizeLine by decide)
  have h3 : Txt.split (S (TL.joinL [c] ws)) (S [c]) = ws.map S := by
    rw [split_S (by simp) (by simpa using hc), spl_join hne hf]
  unfold vSplit
  simp only [h1, h2, and_self, if_true, h3, List.map_map]
  rfl
theorem cut1 {α : Type} (x : α) (xs : List α) : cutP (x :: xs) (some 1) none = xs := by
  have e1 : HT.sIx (x :: xs).length 0 (some 1) = 1 := by
    rw [show (1 : Int) = ((1 : Nat) : Int) from rfl, HT.sIx_nat]
    simp
  have e2 : HT.sIx (x :: xs).length (x :: xs).length none = (x :: xs).length := HT.sIx_none _ _
  unfold cutP
  rw [e1, e2]
  simp
theorem sl_lst {n : Nat} {xs : List PV} {lo hi : Option Int} (h : s.g[n]? = some (.lst xs)) : vSl (.ref n) lo hi s = .ok (.ref s.g.length) (s.push (.lst (cutP xs lo hi))) := by
  simp [vSl, h]
@[simp] theorem ev_sl {mv : ME} {lo hi : Option ME} : mSl mv lo hi φ p s = (mv φ p s).bind fun v s => (mPart lo φ p s).bind fun l s => (mPart hi φ p s).bind fun h s => vSl v l h s := (rfl)
@[simp] theorem part_none : mPart none φ p s = .ok none s := (rfl)
def partK (v : PV) (s : Sg) : R (Option Int) := match v with | .int i => .ok (some i) s | _ => .bad
@[simp] theorem partK_int {i : Int} : partK (.int i) s = .ok (some i) s := (rfl)
@[simp] theorem part_some {m : ME} : mPart (some m) φ p s = (m φ p s).bind partK := (rfl)
/-- dict cells -/
abbrev wKV (w : List Nat × Int × Int) : Key × PV := (.inr (S w.1), prPV w.2)
theorem dGet_miss {κ α : Type} [DecidableEq κ] {l : List (κ × α)} {k : κ} (h : k ∉ l.map (·.1)) : dGet l k = none := by
  unfold dGet
  rw [List.find?_eq_none.mpr]
  · rfl
  · intro x hx e
    exact h (List.mem_map.mpr ⟨x, hx, of_decide_eq_true e⟩)
theorem dPut_new {κ α : Type} [DecidableEq κ] {l : List (κ × α)} {k : κ} {v : α} (h : k ∉ l.map (·.1)) : dPut l k v = l ++ [(k, v)] := by
  unfold dPut
  rw [if_neg]
  intro e
  obtain ⟨x, hx, e⟩ := List.any_eq_true.mp e
  exact h (List.mem_map.mpr ⟨x, hx, of_decide_eq_true e⟩)
theorem in_dic {n : Nat} {kvs : List (Key × PV)} {b : Bool} {x : PV} {k : Key} (h : s.g[n]? = some (.dic kvs b)) (hk : keyOf x = some k) : vIn x (.ref n) s = .ok (.bl (dGet kvs k).isSome) s := by
  simp [vIn, inP, h, hk]
theorem notin_dic {n : Nat} {kvs : List (Key × PV)} {b : Bool} {x : PV} {k : Key} (h : s.g[n]? = some (.dic kvs b)) (hk : keyOf x = some k) : vNotIn x (.ref n) s = .ok (.bl (!(dGet kvs k).isSome)) s := by
  simp [vNotIn, inP, h, hk]
theorem setD_ok {n : Nat} {kvs : List (Key × PV)} {x v : PV} {k : Key} (h : s.g[n]? = some (.dic kvs false)) (hk : keyOf x = some k) (hl : kvs.length < 100000) : vSetIx (.ref n) x v s = .ok .non (s.wr n (.dic (dPut kvs k v) false)) := by
  simp only [vSetIx, h, hk]
  exact if_pos (Nat.lt_of_lt_of_le hl (by decide))
end
theorem S_injI {a b : List Nat} : (S a = S b) = (a = b) := propext ⟨S_inj, fun h => by rw [h]⟩
end Bi
namespace Bi
theorem gcst_keep {n low : Nat} {s : Sg} (h : s.low < n) : (gcst n low s).g = s.g := by
  unfold gcst
  rw [if_neg (by omega)]
theorem wr_low {s : Sg} {i : Nat} {o : PO} (h : o.bd 0 = false) : (s.wr i o).low ≤ i := by
  show (if o.bd 0 then s.low else min s.low i) ≤ i
  rw [h]
  simp
  omega
end Bi
namespace Bi
open PySem L2 SX
def PQ.un (n : Nat) (Q : PQ) : PQ where
  nx p s := ∃ kvs, s.g[n]? = some (.dic kvs true) ∧ Q.nx p (s.lk n kvs false)
  rt v s := ∃ kvs, s.g[n]? = some (.dic kvs true) ∧ Q.rt v (s.lk n kvs false)
  bk _ _ := False
  ct _ _ := False
theorem wp_forD {φ : Phi} {p : Sl} {s : Sg} {mi : MI} {g : PV → Sl → Option Sl} {b : MS} {Q : PQ} {it : Wk} {s1 : Sg} {n : Nat} (hi : mi φ p s = .ok it s1) (hu : it.unl = some n) (h : wpS (forM it g b φ it.xs p s1) (Q.un n)) : wpS (mFor mi g b φ p s) Q := by
  unfold mFor
  rw [hi, R.toS, hu]
  cases e : forM it g b φ it.xs p s1 with
  | nx p2 s2 =>
    rw [e] at h
    obtain ⟨kvs, h1, h2⟩ := h
    simp only [unlS, h1]
    exact h2
  | rt v s2 =>
    rw [e] at h
    obtain ⟨kvs, h1, h2⟩ := h
    simp only [unlS, h1]
    exact h2
  | bk p2 s2 => rw [e] at h; exact h.elim
  | ct p2 s2 => rw [e] at h; exact h.elim
  | er C v p2 s2 => rw [e] at h; exact h.elim
  | bad => rw [e] at h; exact h.elim
/-- dicts by functions -/
def fd (ns : List (List Nat)) (f : List Nat → Int × Int) : List (Key × PV) := ns.map fun x => ((.inr (S x) : Key), prPV (f x))
def upd1 (f : List Nat → Int × Int) (x : List Nat) (v : Int × Int) : List Nat → Int × Int := fun y => if y = x then v else f y
theorem fd_get {ns : List (List Nat)} {f : List Nat → Int × Int} {x : List Nat} (h : x ∈ ns) : dGet (fd ns f) (.inr (S x) : Key) = some (prPV (f x)) := by
  induction ns with
  | nil => cases h
  | cons y ns ih =>
    unfold dGet fd at ih ⊢
    rw [List.map_cons, List.find?_cons]
    by_cases e : y = x
    · subst e
      simp
    · have : decide ((.inr (S y) : Key) = .inr (S x)) = false := decide_eq_false fun z => e (S_inj (Sum.inr.inj z))
      rw [this]
      exact ih (by simpa [Ne.symm e] using h)
theorem fd_put {ns : List (List Nat)} {f : List Nat → Int × Int} {x : List Nat} {v : Int × Int} (h : x ∈ ns) : dPut (fd ns f) (.inr (S x) : Key) (prPV v) = fd ns (upd1 f x v) := by
  unfold dPut
  rw [if_pos]
  · unfold fd
    rw [List.map_map]
    refine List.map_congr_left fun y _ => ?_
    simp only [Function.comp, upd1]
    by_cases e : y = x
    · simp [e]
    · have : ¬ (.inr (S y) : Key) = .inr (S x) := fun z => e (S_inj (Sum.inr.inj z))
      simp [e, this]
  · rw [List.any_eq_true]
    exact ⟨(.inr (S x), prPV (f x)), List.mem_map.mpr ⟨x, h, rfl⟩, by simp⟩
theorem fd_len {ns : List (List Nat)} {f : List Nat → Int × Int} : (fd ns f).length = ns.length := by simp [fd]
theorem fd_keys {ns : List (List Nat)} {f : List Nat → Int × Int} : keysP (fd ns f) = ns.map sPV := by
  simp [keysP, fd, kPV]
theorem fd_bd {ns : List (List Nat)} {f : List Nat → Int × Int} {b : Bool} (n : Nat) : (PO.dic (fd ns f) b).bd n = true := by
  simp only [PO.bd, fd, List.all_map, List.all_eq_true]
  exact fun x _ => bd_mono (Nat.zero_le _) _ prPV_bd
theorem ixFd {s : Sg} {n : Nat} {ns : List (List Nat)} {f : List Nat → Int × Int} {b : Bool} {x : List Nat} (h : s.g[n]? = some (.dic (fd ns f) b)) (hx : x ∈ ns) : vIx (.ref n) (sPV x) s = .ok (prPV (f x)) s := ixD h rfl (fd_get hx)
theorem setFd {s : Sg} {n : Nat} {ns : List (List Nat)} {f : List Nat → Int × Int} {x : List Nat} {v : Int × Int} (h : s.g[n]? = some (.dic (fd ns f) false)) (hx : x ∈ ns) (hl : ns.length < 100000) : vSetIx (.ref n) (sPV x) (prPV v) s = .ok .non (s.wr n (.dic (fd ns (upd1 f x v)) false)) := by
  rw [setD_ok h rfl (by rw [fd_len]; exact hl), fd_put hx]
def itn {α : Type} (g : α → α) : Nat → α → α
  | 0, a => a
  | n + 1, a => itn g n (g a)
theorem itn_succ {α : Type} (g : α → α) : ∀ (n : Nat) (a : α), itn g (n + 1) a = g (itn g n a)
  | 0, _ => rfl
  | n + 1, a => itn_succ g n (g a)
def relR (len : Int) (f : List Nat → Int × Int) (p : List Nat × List Nat) : List Nat → Int × Int := upd1 f p.2 (max (f p.2).1 ((f p.1).1 + len), (f p.2).2)
def relD (len : Int) (f : List Nat → Int × Int) (p : List Nat × List Nat) : List Nat → Int × Int := upd1 f p.1 ((f p.1).1, min (f p.1).2 ((f p.2).2 - len))
def lapP (len : Int) (A : List (List Nat × List Nat)) (f : List Nat → Int × Int) : List Nat → Int × Int := A.foldl (relD len) (A.foldl (relR len) f)
theorem listItems_ok {s : Sg} {n : Nat} {kvs : List (Key × PV)} (h : s.g[n]? = some (.dic kvs false)) (hl : kvs.length ≤ 100000) : vListItems (.ref n) s = .ok (.ref s.g.length) (s.push (.lst (itemsP kvs))) := by
  unfold vListItems
  simp only [h]
theorem asKV_items : ∀ kvs : List (Key × PV), (itemsP kvs).mapM asKV = some kvs
  | [] => rfl
  | (k, v) :: r => by
    have : asKV (.tup [kPV k, v]) = some (k, v) := by
      cases k <;> rfl
    show ((.tup [kPV k, v] : PV) :: itemsP r).mapM asKV = _
    rw [List.mapM_cons, this, asKV_items r]
    rfl
theorem dMerge_fd {ns : List (List Nat)} {f : List Nat → Int × Int} (h : ns.Nodup) : dMerge [] (fd ns f) = fd ns f := by
  have key : ∀ (ms pre : List (List Nat)), (pre ++ ms).Nodup → (fd ms f).foldl (fun acc kv => dPut acc kv.1 kv.2) (fd pre f) = fd (pre ++ ms) f := by
    intro ms
    induction ms with
    | nil => intro pre _; simp [fd]
    | cons x ms ih =>
      intro pre hn
      have hx : x ∉ pre := by
        rw [List.nodup_append] at hn
        exact fun hm => hn.2.2 x hm x (by simp) rfl
      show (fd ms f).foldl _ (dPut (fd pre f) (.inr (S x)) (prPV (f x))) = _
      rw [dPut_new]
      · have e : fd pre f ++ [(.inr (S x), prPV (f x))] = fd (pre ++ [x]) f := by simp [fd]
        rw [e, ih (pre ++ [x]) (by simpa using hn)]
        simp
      · intro hm
        unfold fd at hm
        rw [List.map_map] at hm
        obtain ⟨y, hy, e⟩ := List.mem_map.mp hm
        exact hx (S_inj (Sum.inr.inj e) ▸ hy)
  exact key ns [] (by simpa using h)
theorem dict_ok {s : Sg} {n : Nat} {ns : List (List Nat)} {f : List Nat → Int × Int} (h : s.g[n]? = some (.lst (itemsP (fd ns f)))) (hn : ns.Nodup) : vDict [.ref n] s = .ok (.ref s.g.length) (s.push (.dic (fd ns f) false)) := by
  simp only [vDict, h, asKV_items, dMerge_fd hn]
end Bi
namespace Bi
@[simp] theorem vIx_t0 {s : Sg} {a : PV} {l : List PV} : vIx (.tup (a :: l)) (.int 0) s = .ok a s := ixT (by simp)
@[simp] theorem vIx_t1 {s : Sg} {a b : PV} {l : List PV} : vIx (.tup (a :: b :: l)) (.int 1) s = .ok b s := ixT (by simp)
end Bi
namespace Bi
theorem tuple_ok {s : Sg} {n : Nat} {xs : List PV} (h : s.g[n]? = some (.lst xs)) : vTuple [.ref n] s = .ok (.tup xs) s := by
  simp [vTuple, seqOf, lstOf, h]
theorem gcst_low {n low : Nat} {s : Sg} (h : s.low < n) {i : Nat} {o : PO} (e : s.g[i]? = some o) : (gcst n low s).g[i]? = some o := by
  rw [gcst_keep h]
  exact e
end Bi

end
section
set_option Elab.async false
set_option linter.all false
set_option autoImplicit false
set_option maxRecDepth 100000
set_option maxHeartbeats 1000000
/-! Bi41: more rules. -/
namespace Bi
open PySem L2 SX
section
variable {φ : Phi} {p : Sl} {s : Sg} {T : Tab}
theorem wp_lcW {mi : MI} {vs : List Nat} {g : PV → Sl → Option Sl} {t e : ME} {Q : PV → Sg → Prop} (h : wpR (mi φ p s) fun it s1 => it.unl = none ∧ wpR (lcM it vs g t e s1.g.length φ p it.xs (s1.push (.lst []))) fun _ s2 => Q (.ref s1.g.length) s2) : wpR (mLc mi vs g t e φ p s) Q := by
  obtain ⟨it, s1, e1, hu, h2⟩ := wpR_some h
  exact wp_lc0 e1 hu h2
theorem wp_forW {mi : MI} {g : PV → Sl → Option Sl} {b : MS} {Q : PQ} (h : wpR (mi φ p s) fun it s1 => it.unl = none ∧ wpS (forM it g b φ it.xs p s1) Q) : wpS (mFor mi g b φ p s) Q := by
  obtain ⟨it, s1, e1, hu, h2⟩ := wpR_some h
  exact wp_for0 e1 hu h2
@[simp] theorem ev_inT {ma mb : ME} : mInT T ma mb φ p s = (ma φ p s).bind fun a s => (mb φ p s).bind fun b s => vInA T φ a b s := (rfl)
@[simp] theorem ev_notInT {ma mb : ME} : mNotInT T ma mb φ p s = (ma φ p s).bind fun a s => (mb φ p s).bind fun b s => vNotInA T φ a b s := (rfl)
theorem notinA_ok {n : Nat} {C : Str} {fs : List (Str × PV)} {y : PV} {Q : PV → Sg → Prop} (h : s.g[n]? = some (.ins C fs)) (hT : T.meth C ctn = true) (w : wpR (φ (qn C ctn) [.ref n, y] s) fun v s' => ∃ b, v = .bl b ∧ Q (.bl (!b)) s') : wpR (vNotInA T φ y (.ref n) s) Q := by
  obtain ⟨v, s', e, b, rfl, hq⟩ := wpR_some w
  simp only [vNotInA, ownIn, h, hT, if_true, e, noErr, bind_ok, onB_bl, wpR_ok]
  exact hq
theorem lenA_ok {n : Nat} {C : Str} {fs : List (Str × PV)} {Q : PV → Sg → Prop} (h : s.g[n]? = some (.ins C fs)) (hT : T.meth C (Str.ofString "__len__") = true) (w : wpR (φ (qn C (Str.ofString "__len__")) [.ref n] s) fun v s' => ∃ i : Int, v = .int i ∧ 0 ≤ i ∧ i < 100000 ∧ Q (.int i) s') : wpR (vLen T φ [.ref n] s) Q := by
  obtain ⟨v, s', e, i, rfl, h1, h2, hq⟩ := wpR_some w
  have hk : okLn i = true := by
    unfold okLn
    simp only [Bool.and_eq_true, decide_eq_true_eq]
    omega
  simp only [vLen, h, hT, if_true, e, noErr, bind_ok, hk, wpR_ok]
  exact hq
theorem list_dic {n : Nat} {kvs : List (Key × PV)} {b : Bool} (h : s.g[n]? = some (.dic kvs b)) : vList [.ref n] s = .ok (.ref s.g.length) (s.push (.lst (kvs.map fun kv => kPV kv.1))) := by
  simp [vList, seqOf, lstOf, h]
theorem list_lst {n : Nat} {xs : List PV} (h : s.g[n]? = some (.lst xs)) : vList [.ref n] s = .ok (.ref s.g.length) (s.push (.lst xs)) := by
  simp [vList, seqOf, lstOf, h]
theorem fd_kPV {ns : List (List Nat)} {f : List Nat → Int × Int} : ((fd ns f).map fun kv => kPV kv.1) = ns.map sPV := by
  simp [fd, kPV]
theorem sorted_ok {n : Nat} {xs : List Int} (h : s.g[n]? = some (.lst (xs.map .int))) : vSortedL [.ref n] s = .ok (.ref s.g.length) (s.push (.lst ((sortI xs).map .int))) := by
  simp only [vSortedL, seqOf, lstOf, h, mapM_int]
theorem max_lst {n : Nat} {xs : List Int} {m : Int} (h : s.g[n]? = some (.lst (xs.map .int))) (hm : maxL xs = some m) : vMax [.ref n] s = .ok (.int m) s := by
  simp only [vMax, seqOf, lstOf, h, Option.bind_some, mapM_int, hm]
theorem maxL_iff {xs : List Int} {m : Int} : maxL xs = some m ↔ m ∈ xs ∧ ∀ x ∈ xs, x ≤ m := by
  have key : ∀ (l : List Int) (a : Int), (l.foldl (fun a b => if b > a then b else a) a ∈ a :: l) ∧ ∀ x ∈ a :: l, x ≤ l.foldl (fun a b => if b > a then b else a) a := by
    intro l
    induction l with
    | nil => intro a; simp
    | cons b l ih =>
      intro a
      rw [List.foldl_cons]
      obtain ⟨h1, h2⟩ := ih (if b > a then b else a)
      constructor
      · rcases List.mem_cons.mp h1 with h | h
        · rw [h]; split <;> simp
        · simp [h]
      · intro x hx
        have h3 := h2 (if b > a then b else a) (by simp)
        rcases List.mem_cons.mp hx with rfl | hx
        · refine Int.le_trans ?_ h3; split <;> omega
        · rcases List.mem_cons.mp hx with rfl | hx
          · refine Int.le_trans ?_ h3; split <;> omega
          · exact h2 x (by simp [hx])
  cases xs with
  | nil => simp [maxL]
  | cons a l =>
    obtain ⟨h1, h2⟩ := key l a
    simp only [maxL, Option.some.injEq]
    constructor
    · rintro rfl; exact ⟨h1, h2⟩
    · rintro ⟨h3, h4⟩
      have := h2 m h3
      have := h4 _ h1
      omega
theorem dGet_cons {κ α : Type} [DecidableEq κ] {l : List (κ × α)} {k k' : κ} {v : α} : dGet ((k, v) :: l) k' = if k = k' then some v else dGet l k' := by
  unfold dGet
  rw [List.find?_cons]
  by_cases h : k = k' <;> simp [h]
theorem dGet_map {κ α : Type} [DecidableEq κ] {k k' : κ} {v : α} : ∀ l : List (κ × α), dGet (l.map (fun kv => if kv.1 = k then (kv.1, v) else kv)) k' = if k = k' then (dGet l k').map (fun _ => v) else dGet l k'
  | [] => by simp [dGet]
  | (a, b) :: l => by
    rw [List.map_cons, dGet_cons (k := a) (v := b)]
    by_cases ha : a = k
    · subst ha
      rw [if_pos rfl, dGet_cons, dGet_map l]
      by_cases h : a = k' <;> simp [h]
    · rw [if_neg ha, dGet_cons, dGet_map l]
      by_cases h : a = k'
      · subst h; simp [ha, Ne.symm ha]
      · simp [h]
theorem dGet_app {κ α : Type} [DecidableEq κ] {k k' : κ} {v : α} : ∀ l : List (κ × α), dGet (l ++ [(k, v)]) k' = match dGet l k' with | some x => some x | none => if k = k' then some v else none
  | [] => by simp [dGet_cons]; simp [dGet]
  | (a, b) :: l => by
    rw [List.cons_append, dGet_cons, dGet_cons, dGet_app l]
    by_cases h : a = k' <;> simp [h]
theorem dGet_dPut {κ α : Type} [DecidableEq κ] {l : List (κ × α)} {k k' : κ} {v : α} : dGet (dPut l k v) k' = if k = k' then some v else dGet l k' := by
  unfold dPut
  split
  · rename_i h
    rw [dGet_map]
    by_cases e : k = k'
    · subst e
      obtain ⟨x, hx, ex⟩ := List.any_eq_true.mp h
      cases hd : dGet l k with
      | some y => simp
      | none =>
        unfold dGet at hd
        rw [Option.map_eq_none_iff, List.find?_eq_none] at hd
        exact absurd ex (hd x hx)
    · simp [e]
  · rename_i h
    rw [dGet_app]
    by_cases e : k = k'
    · subst e
      have : dGet l k = none := dGet_miss fun hm => h (by
        obtain ⟨x, hx, ex⟩ := List.mem_map.mp hm
        exact List.any_eq_true.mpr ⟨x, hx, by simp [ex]⟩)
      simp [this]
    · simp only [e, if_false]
      cases dGet l k' <;> rfl
theorem dPut_len {κ α : Type} [DecidableEq κ] {l : List (κ × α)} {k : κ} {v : α} : (dPut l k v).length ≤ l.length + 1 := by
  unfold dPut
  split <;> simp
section
variable {φ : Phi} {p : Sl} {s : Sg}
theorem get2_ok {n : Nat} {kvs : List (Key × PV)} {b : Bool} {k x : PV} {kk : Key} (h : s.g[n]? = some (.dic kvs b)) (hk : keyOf k = some kk) : vGet2 (.ref n) [k, x] s = .ok ((dGet kvs kk).getD x) s := by
  simp only [vGet2, h, hk]
  cases dGet kvs kk <;> rfl
theorem kdDicR_ok {n : Nat} {kvs : List (Key × PV)} {b : Bool} (h : s.g[n]? = some (.dic kvs b)) : kdDicR (.ref n) s = true := by
  simp [kdDicR, h]
@[simp] theorem ev_get2 {mo mi mx : ME} : mGet2 mo mi mx φ p s = (mo φ p s).bind fun o s => if kdDicR o s then (mi φ p s).bind fun i s => (mx φ p s).bind fun x s => vGet2 o [i, x] s else .bad := (rfl)
@[simp] theorem ev_star {m : ME} {r : ML} : mStar m r φ p s = (m φ p s).bind fun v s => match seqOf v s with
  | some xs => (r φ p s).bind fun vs s => .ok (xs ++ vs) s
  | none => .bad := (rfl)
end
end
end Bi

end
section
set_option Elab.async false
set_option linter.all false
set_option autoImplicit false
set_option maxRecDepth 100000
set_option maxHeartbeats 1000000
/-! Bi42: rules: dict comprehensions, sorted/max/min of tuples, tables from names to ints, plans. -/
namespace Bi
open PySem L2 SX
theorem dMerge_len (l acc : List (Key × PV)) : (dMerge acc l).length ≤ acc.length + l.length := by
  induction l generalizing acc with
  | nil => simp [dMerge]
  | cons q l ih =>
    have h := ih (dPut acc q.1 q.2)
    have h2 := dPut_len (l := acc) (k := q.1) (v := q.2)
    show (dMerge (dPut acc q.1 q.2) l).length ≤ _
    simp only [List.length_cons]
    omega
theorem dMerge_snoc (l acc : List (Key × PV)) (q : Key × PV) : dMerge acc (l ++ [q]) = dPut (dMerge acc l) q.1 q.2 := by
  unfold dMerge
  rw [List.foldl_append]
  rfl
theorem wp_dc0 {φ : Phi} {p : Sl} {s : Sg} {mi : MI} {vs : List Nat} {g : PV → Sl → Option Sl} {t ek e : ME} {Q : PV → Sg → Prop} {it : Wk} {s1 : Sg} (hi : mi φ p s = .ok it s1) (hu : it.unl = none) (h : wpR (dcM it vs g t ek e s1.g.length φ p it.xs (s1.push (.dic [] false))) fun _ s2 => Q (.ref s1.g.length) s2) : wpR (mDc mi vs g t ek e φ p s) Q := by
  unfold mDc
  rw [hi]
  simp only [bind_ok, wpR_bind, hu]
  exact h
theorem wp_dcW {φ : Phi} {p : Sl} {s : Sg} {mi : MI} {vs : List Nat} {g : PV → Sl → Option Sl} {t ek e : ME} {Q : PV → Sg → Prop} (h : wpR (mi φ p s) fun it s1 => it.unl = none ∧ wpR (dcM it vs g t ek e s1.g.length φ p it.xs (s1.push (.dic [] false))) fun _ s2 => Q (.ref s1.g.length) s2) : wpR (mDc mi vs g t ek e φ p s) Q := by
  obtain ⟨it, s1, e1, hu, w⟩ := wpR_some h
  exact wp_dc0 e1 hu w
theorem wp_dcT {α : Type} {it : Wk} {vs : List Nat} {g : PV → Sl → Option Sl} {ek e : ME} {φ : Phi} {p : Sl} {s1 : Sg} {Q : Unit → Sg → Prop} (L : List α) (emb : α → PV) (hL : it.xs = L.map emb) (kf : α → Key) (f : α → PV)
    (hok : ∀ s, Fx [] s1 s → it.ok s) (hsz : L.length < sizeLine)
    (hstep : ∀ y ∈ L, ∀ s, Fx [] s1 s → ∃ p1, g (emb y) (wipeP p vs) = some p1 ∧ wpR (ek φ p1 s) fun kv s2 => keyOf kv = some (kf y) ∧ Fx [] s s2 ∧ wpR (e φ p1 s2) fun v s3 => v = f y ∧ Fx [] s2 s3)
    (q : ∀ s, Fx [] s1 s → s.g[s1.g.length]? = some (.dic (dMerge [] (L.map fun y => (kf y, f y))) false) → Q () s) : wpR (dcM it vs g (mC (.bl true)) ek e s1.g.length φ p it.xs (s1.push (.dic [] false))) Q := by
  have key : ∀ (xs pre : List α) (s : Sg), L = pre ++ xs → Fx [] s1 s → s.g[s1.g.length]? = some (.dic (dMerge [] (pre.map fun y => (kf y, f y))) false) → wpR (dcM it vs g (mC (.bl true)) ek e s1.g.length φ p (xs.map emb) s) Q := by
    intro xs
    induction xs with
    | nil =>
      intro pre s e1 h1 h2
      rw [List.map_nil]
      unfold dcM
      rw [if_pos (hok s h1)]
      rw [List.append_nil] at e1
      rw [← e1] at h2
      exact q s h1 h2
    | cons x xs ih =>
      intro pre s e1 h1 h2
      rw [List.map_cons]
      unfold dcM
      rw [if_pos (hok s h1)]
      obtain ⟨p1, e2, w⟩ := hstep x (by rw [e1]; simp) s h1
      rw [e2]
      simp only [ev_c]
      obtain ⟨kv, s2, e3, h3, h4, w2⟩ := wpR_some w
      rw [e3]
      dsimp only
      obtain ⟨v, s3, e4, h6, h7⟩ := wpR_some w2
      rw [e4]
      dsimp only
      have hlen : pre.length + (xs.length + 1) < sizeLine := by rw [e1] at hsz; simpa using hsz
      have h8 := h7.get (h4.get h2 (by simp)) (by simp)
      rw [h8]
      dsimp only
      rw [h3]
      dsimp only
      rw [if_pos (by have := dMerge_len (pre.map fun y => (kf y, f y)) []; simp at this; omega)]
      refine ih (pre ++ [x]) _ (by rw [e1]; simp) (((h1.trans h4).trans h7).wr _ fun z => absurd z (Nat.lt_irrefl _)) ?_
      rw [wr_same h8, List.map_append, List.map_cons, List.map_nil, dMerge_snoc, h6]
  rw [hL]
  exact key L [] (s1.push (.dic [] false)) rfl (Fx.refl.push _) (by simp [dMerge])
section
variable {s : Sg}
theorem sortedT_ok {xs : List Int} : vSortedL [.tup (xs.map .int)] s = .ok (.ref s.g.length) (s.push (.lst ((sortI xs).map .int))) := by
  simp only [vSortedL, seqOf, mapM_int]
theorem maxT_ok {xs : List Int} {m : Int} (hm : maxL xs = some m) : vMax [.tup (xs.map .int)] s = .ok (.int m) s := by
  simp only [vMax, seqOf, Option.bind_some, mapM_int, hm]
theorem minT_ok {xs : List Int} {m : Int} (hm : minL xs = some m) : vMin [.tup (xs.map .int)] s = .ok (.int m) s := by
  simp only [vMin, seqOf, Option.bind_some, mapM_int, hm]
end
end Bi
namespace Bi
open PySem L2 SX
theorem cut_from {α : Type} (xs : List α) (h : Nat) : cutP xs (some (h : Int)) none = xs.drop h := by
  unfold cutP
  rw [HT.sIx_nat, HT.sIx_none]
  rcases Nat.le_total h xs.length with c | c
  · rw [Nat.min_eq_left c, List.take_of_length_le (by simp)]
  · rw [Nat.min_eq_right c, List.drop_of_length_le c, List.drop_of_length_le (Nat.le_refl _), List.take_nil]
theorem cut_to {α : Type} (xs : List α) (h : Nat) : cutP xs none (some (h : Int)) = xs.take h := by
  unfold cutP
  rw [HT.sIx_nat, HT.sIx_none, List.drop_zero, Nat.sub_zero]
  rcases Nat.le_total h xs.length with c | c
  · rw [Nat.min_eq_left c]
  · rw [Nat.min_eq_right c, List.take_of_length_le (Nat.le_refl _), List.take_of_length_le c]
theorem zipP_map {α β : Type} (f : α → PV) (g : β → PV) : ∀ (xs : List α) (ys : List β), zipP (xs.map f) (ys.map g) = (xs.zip ys).map fun q => PV.tup [f q.1, g q.2]
  | [], _ => by simp [zipP]
  | x :: xs, [] => by simp [zipP]
  | x :: xs, y :: ys => by simp [zipP, zipP_map f g xs ys]
section
variable {s : Sg}
theorem zip_ll {a b : Nat} {xs ys : List PV} (ha : s.g[a]? = some (.lst xs)) (hb : s.g[b]? = some (.lst ys)) : vZip [.ref a, .ref b] s = .ok ⟨zipP xs ys, [(a, .lst xs), (b, .lst ys)], none⟩ s := by
  simp [vZip, seqOf, lstOf, ha, hb, srcOf]
theorem zip_tt {xs ys : List PV} : vZip [.tup xs, .tup ys] s = .ok ⟨zipP xs ys, [], none⟩ s := by
  simp [vZip, seqOf, srcOf]
theorem zip_lt {a : Nat} {xs ys : List PV} (ha : s.g[a]? = some (.lst xs)) : vZip [.ref a, .tup ys] s = .ok ⟨zipP xs ys, [(a, .lst xs)], none⟩ s := by
  simp [vZip, seqOf, lstOf, ha, srcOf]
theorem slT_from {xs : List PV} {h : Nat} : vSl (.tup xs) (some (h : Int)) none s = .ok (.tup (xs.drop h)) s := by
  simp [vSl, cut_from]
theorem slT_to {xs : List PV} {h : Nat} : vSl (.tup xs) none (some (h : Int)) s = .ok (.tup (xs.take h)) s := by
  simp [vSl, cut_to]
theorem sl_from {n : Nat} {xs : List PV} {h : Nat} (e : s.g[n]? = some (.lst xs)) : vSl (.ref n) (some (h : Int)) none s = .ok (.ref s.g.length) (s.push (.lst (xs.drop h))) := by
  rw [sl_lst e, cut_from]
theorem sl_to {n : Nat} {xs : List PV} {h : Nat} (e : s.g[n]? = some (.lst xs)) : vSl (.ref n) none (some (h : Int)) s = .ok (.ref s.g.length) (s.push (.lst (xs.take h))) := by
  rw [sl_lst e, cut_to]
@[simp] theorem ok_two {xs : List PV} {u : Option Nat} {n m : Nat} {o o' : PO} : Wk.ok ⟨xs, [(n, o), (m, o')], u⟩ s ↔ s.g[n]? = some o ∧ s.g[m]? = some o' := by simp [Wk.ok]
end
end Bi

end
section
set_option Elab.async false
set_option linter.all false
set_option autoImplicit false
set_option maxRecDepth 100000
set_option maxHeartbeats 1000000
/-! Pl1: plain law: begins in order stand apart just if at no hour too many are at work. -/
namespace Pl
open Bi
def apart (as : List Int) (h : Nat) (len : Int) : Bool := (as.zip (as.drop h)).all fun p => decide (len ≤ p.2 - p.1)
def atWork (len t b : Int) : Bool := decide (b ≤ t) && decide (t < b + len)
def cnt (as : List Int) (len t : Int) : Nat := (as.filter (atWork len t)).length
theorem apart_iff {as : List Int} {h : Nat} {len : Int} : apart as h len = true ↔ ∀ i (hi : i + h < as.length), len ≤ as[i + h] - as[i] := by
  unfold apart
  rw [List.all_eq_true]
  constructor
  · intro H i hi
    have := H (as[i], as[i + h]) (by
      refine List.mem_iff_getElem.mpr ⟨i, by simp; omega, ?_⟩
      simp [List.getElem_zip, Nat.add_comm])
    simpa using this
  · intro H p hp
    obtain ⟨i, hi, rfl⟩ := List.mem_iff_getElem.mp hp
    simp at hi
    have := H i (by omega)
    simp [List.getElem_zip]
    simpa [Nat.add_comm] using this
theorem split_at {as : List Int} (hs : as.Pairwise (· ≤ ·)) (c : Int) : ∃ k, k ≤ as.length ∧ (∀ x ∈ as.take k, x ≤ c) ∧ ∀ x ∈ as.drop k, c < x := by
  induction as with
  | nil => exact ⟨0, by simp, by simp, by simp⟩
  | cons a r ih =>
    obtain ⟨h1, h2⟩ := List.pairwise_cons.mp hs
    by_cases hc : a ≤ c
    · obtain ⟨k, k1, k2, k3⟩ := ih h2
      refine ⟨k + 1, by simp; omega, ?_, by simpa using k3⟩
      intro x hx
      rw [List.take_succ_cons] at hx
      rcases List.mem_cons.mp hx with e | hx
      · rw [e]; exact hc
      · exact k2 x hx
    · refine ⟨0, by simp, by simp, ?_⟩
      intro x hx
      rw [List.drop_zero] at hx
      rcases List.mem_cons.mp hx with e | hx
      · rw [e]; omega
      · have := h1 x hx; omega
theorem apart_cnt {as : List Int} (hs : as.Pairwise (· ≤ ·)) {h : Nat} {len : Int} (H : apart as h len = true) (t : Int) : cnt as len t ≤ h := by
  rw [apart_iff] at H
  obtain ⟨i, i1, i2, i3⟩ := split_at hs (t - len)
  obtain ⟨j, j1, j2, j3⟩ := split_at hs t
  have c1 : (as.take i).filter (atWork len t) = [] := List.filter_eq_nil_iff.mpr fun x hx q => by
    have := i2 x hx
    simp [atWork] at q
    omega
  have c3 : (as.drop j).filter (atWork len t) = [] := List.filter_eq_nil_iff.mpr fun x hx q => by
    have := j3 x hx
    simp [atWork] at q
    omega
  have e : cnt as len t ≤ j - i := by
    unfold cnt
    conv => lhs; rw [← List.take_append_drop j as]
    rw [List.filter_append, c3, List.append_nil]
    rcases Nat.le_total i j with c | c
    · conv => lhs; rw [← List.take_append_drop i (as.take j)]
      rw [List.filter_append, List.take_take, Nat.min_eq_left c, c1, List.nil_append]
      refine Nat.le_trans (List.length_filter_le _ _) ?_
      simp
      omega
    · have : as.take j = (as.take i).take j := by rw [List.take_take, Nat.min_eq_left c]
      rw [this]
      have q : ((as.take i).take j).filter (atWork len t) = [] := List.filter_eq_nil_iff.mpr fun x hx q => by
        have := i2 x (List.mem_of_mem_take hx)
        simp [atWork] at q
        omega
      rw [q]
      simp
  rcases Nat.lt_or_ge h (j - i) with c | c
  · exfalso
    have hj : i + h < as.length := by omega
    have z := H i hj
    have z1 : t - len < as[i] := i3 _ (List.mem_iff_getElem.mpr ⟨0, by simp; omega, by simp⟩)
    have z2 : as[i + h] ≤ t := j2 _ (List.mem_iff_getElem.mpr ⟨i + h, by simp; omega, by simp⟩)
    omega
  · omega
theorem sorted_le {as : List Int} (hs : as.Pairwise (· ≤ ·)) {i j : Nat} (hij : i ≤ j) (hj : j < as.length) : as[i] ≤ as[j] := by
  rcases Nat.eq_or_lt_of_le hij with e | e
  · subst e; exact Int.le_refl _
  · exact List.pairwise_iff_getElem.mp hs i j (by omega) hj e
theorem cnt_apart {as : List Int} (hs : as.Pairwise (· ≤ ·)) {h : Nat} {len : Int} (H : ∀ t ∈ as, cnt as len t ≤ h) : apart as h len = true := by
  rw [apart_iff]
  intro i hi
  apply Classical.byContradiction
  intro hc
  have h1 := H as[i + h] (List.getElem_mem hi)
  have hsub : ((as.drop i).take (h + 1)).Sublist as := (List.take_sublist _ _).trans (List.drop_sublist _ _)
  have hall : ((as.drop i).take (h + 1)).filter (atWork len as[i + h]) = (as.drop i).take (h + 1) := by
    rw [List.filter_eq_self]
    intro x hx
    obtain ⟨m, hm, rfl⟩ := List.mem_iff_getElem.mp hx
    simp at hm
    simp only [List.getElem_take, List.getElem_drop]
    have a1 := sorted_le hs (i := i) (j := i + m) (by omega) (by omega)
    have a2 := sorted_le hs (i := i + m) (j := i + h) (by omega) hi
    simp [atWork]
    omega
  have h2 := (hsub.filter (atWork len as[i + h])).length_le
  rw [hall] at h2
  simp at h2
  unfold cnt at h1
  omega
theorem cnt_perm {as bs : List Int} (h : as.Perm bs) (len t : Int) : cnt as len t = cnt bs len t := (h.filter _).length_eq
/-- the look hour by hour -/
def load (p : List Int) (h : Nat) (len lo hi : Int) : Bool := ((List.range (hi + 1 - lo).toNat).map fun (i : Nat) => lo + (i : Int)).all fun t => decide (cnt p len t ≤ h)
theorem load_apart {p as : List Int} (hp : as.Perm p) (hs : as.Pairwise (· ≤ ·)) {h : Nat} {len lo hi : Int} (h1 : ∀ x ∈ p, lo ≤ x) (h2 : ∀ x ∈ p, x ≤ hi) : load p h len lo hi = apart as h len := by
  rw [Bool.eq_iff_iff]
  unfold load
  constructor
  · intro H
    refine cnt_apart hs fun t ht => ?_
    have := List.all_eq_true.mp H t (List.mem_map.mpr ⟨(t - lo).toNat, by
      have a := h1 t (hp.mem_iff.mp ht)
      have b := h2 t (hp.mem_iff.mp ht)
      exact List.mem_range.mpr (by omega), by
      have a := h1 t (hp.mem_iff.mp ht)
      omega⟩)
    rw [cnt_perm hp]
    simpa using this
  · intro H
    rw [List.all_eq_true]
    intro t _
    have := apart_cnt hs H t
    rw [cnt_perm hp] at this
    simpa using this
end Pl

end
section
set_option Elab.async false
set_option linter.all false
set_option autoImplicit false
set_option maxRecDepth 100000
set_option maxHeartbeats 1000000
/-! Bi43: tables from names to ints. -/
namespace Bi
open PySem L2 SX
theorem dMerge_nodup (l acc : List (Key × PV)) (h : ((acc ++ l).map (·.1)).Nodup) : dMerge acc l = acc ++ l := by
  induction l generalizing acc with
  | nil => simp [dMerge]
  | cons q l ih =>
    show dMerge (dPut acc q.1 q.2) l = _
    have hq : q.1 ∉ acc.map (·.1) := by
      intro hm
      rw [List.map_append, List.nodup_append] at h
      exact h.2.2 _ hm _ (by simp) rfl
    rw [dPut_new hq, ih _ (by simpa using h)]
    simp
/-- a table of names and ints -/
def zd (ns : List (List Nat)) (p : List Int) : List (Key × PV) := (ns.zip p).map fun q => ((.inr (S q.1) : Key), PV.int q.2)
/-- what a table tells -/
def tv (ns : List (List Nat)) (p : List Int) (x : List Nat) : Int := p.getD (ns.idxOf x) 0
theorem zd_get : ∀ {ns : List (List Nat)} {p : List Int} {x : List Nat}, x ∈ ns → p.length = ns.length → dGet (zd ns p) (.inr (S x) : Key) = some (.int (tv ns p x))
  | [], _, _, h, _ => by cases h
  | n :: ns, [], _, _, h => by cases h
  | n :: ns, a :: p, x, h, hl => by
    show dGet (((.inr (S n) : Key), PV.int a) :: zd ns p) _ = _
    rw [dGet_cons]
    by_cases e : n = x
    · subst e
      simp [tv]
    · have ne : ¬ ((.inr (S n) : Key) = .inr (S x)) := fun z => e (S_inj (Sum.inr.inj z))
      rw [if_neg ne, zd_get (ns := ns) (p := p) (by rcases List.mem_cons.mp h with q | q; exact absurd q.symm e; exact q) (by simpa using hl)]
      unfold tv
      rw [List.idxOf_cons]
      have e2 : (n == x) = false := by simpa using e
      simp [e2]
theorem zd_keys {ns : List (List Nat)} {p : List Int} (h : p.length = ns.length) : (zd ns p).map (·.1) = ns.map fun x => ((.inr (S x) : Key)) := by
  unfold zd
  rw [List.map_map]
  have : ns.map (fun x => ((.inr (S x) : Key))) = ((ns.zip p).map (·.1)).map fun x => ((.inr (S x) : Key)) := by rw [List.map_fst_zip (by omega)]
  rw [this, List.map_map]
  rfl
theorem zd_merge {ns : List (List Nat)} {p : List Int} (hn : ns.Nodup) (h : p.length = ns.length) : dMerge [] (zd ns p) = zd ns p := by
  rw [dMerge_nodup _ _ ?_, List.nil_append]
  rw [List.nil_append, zd_keys h]
  exact List.pairwise_map.mpr (hn.imp fun {a b} hab e => hab (S_inj (Sum.inr.inj e)))
theorem ixZd {s : Sg} {n : Nat} {ns : List (List Nat)} {p : List Int} {b : Bool} {x : List Nat} (h : s.g[n]? = some (.dic (zd ns p) b)) (hx : x ∈ ns) (hl : p.length = ns.length) : vIx (.ref n) (sPV x) s = .ok (.int (tv ns p x)) s := ixD h rfl (zd_get hx hl)
end Bi

end
section
set_option Elab.async false
set_option linter.all false
set_option autoImplicit false
set_option maxRecDepth 100000
set_option maxHeartbeats 4000000
/-! Bi44: repr of tuples of ints and of bools; comprehensions with an invariant; range(a, b). -/
namespace Bi
open PySem L2 SX
def bndR (i : Int) : Prop := -1000000000 < i ∧ i < 1000000000
theorem numI_len3 {i : Int} (h : bndR i) : (numI i).length ≤ 13 := numI_len (by have := h.1; omega) (by have := h.2; omega)
/-! ### repr of tuples of whole numbers -/
def AOk (x : Str) : Prop := ∀ c ∈ x.cps.toList, c < 0x110000
theorem aok_app {x y : Str} (hx : AOk x) (hy : AOk y) : AOk (x ++ y) := fun c hc => by
  have : c ∈ TL.tl (x ++ y) := hc
  rw [TL.tl_append] at this
  rcases List.mem_append.mp this with h | h
  · exact hx c h
  · exact hy c h
theorem aok_of (t : String) : AOk (Str.ofString t) := fun c hc => by
  have h : c ∈ TL.tl (Str.ofString t) := hc
  rw [TL.tl_ofString] at h
  obtain ⟨ch, _, rfl⟩ := List.mem_map.mp h
  have hv := ch.valid
  simp only [UInt32.isValidChar, Nat.isValidChar] at hv
  show ch.val.toNat < _
  omega
theorem aok_join {sep : Str} (hs : AOk sep) : ∀ ts : List Str, (∀ t ∈ ts, AOk t) → AOk (Str.join sep ts)
  | [], _ => fun c hc => by
    have : c ∈ ([] : List Nat) := hc
    cases this
  | [x], h => h x (by simp)
  | x :: y :: r, h => aok_app (aok_app (h x (by simp)) hs) (aok_join hs (y :: r) fun t ht => h t (by simp at ht ⊢; exact Or.inr ht))
def rp (xs : List Int) : Str := PyData.shown (.tuple (xs.map PyData.int))
theorem shownAll_int : ∀ xs : List Int, PyData.shownAll (xs.map PyData.int) = xs.map fun i => Str.ofString (toString i)
  | [] => by simp [PyData.shownAll]
  | x :: xs => by simp [PyData.shownAll, PyData.shown, shownAll_int xs]
theorem rp_eq (xs : List Int) : rp xs = tupleText (xs.map fun i => Str.ofString (toString i)) := by
  unfold rp
  rw [PyData.shown, shownAll_int]
theorem aok_rp (xs : List Int) : AOk (rp xs) := by
  rw [rp_eq]
  unfold tupleText
  refine aok_app (aok_app (aok_of _) (aok_join (aok_of _) _ fun t ht => ?_)) (aok_of _)
  obtain ⟨i, _, rfl⟩ := List.mem_map.mp ht
  exact aok_of _
theorem canLay_rp (xs : List Int) : (PyData.str (rp xs)).canLay0 = true := by
  unfold PyData.canLay0 PyData.strOk
  rw [← Array.all_toList]
  exact List.all_eq_true.mpr fun c hc => by have := aok_rp xs c hc; simp; exact this
theorem mapM_I {s : Sg} {k : Nat} (xs : List Int) : (xs.map PV.int).mapM (toD s (k + 1)) = some (xs.map PyData.int) := mapM_toD (fun x => toD_int) xs
theorem toD_ints {s : Sg} (xs : List Int) : toD s dD (.tup (xs.map .int)) = some (.tuple (xs.map .int)) := by
  show toD s (59 + 1) _ = _
  rw [toD_tup, mapM_I (k := 58)]
  rfl
theorem showableAll_int : ∀ xs : List Int, (∀ x ∈ xs, bndR x) → PyData.showableAll (xs.map PyData.int) = true
  | [], _ => by simp [PyData.showableAll]
  | x :: xs, h => by
    have hx := h x (by simp)
    have h1 : x.natAbs.log2 < 1920 := by
      by_cases h0 : x.natAbs = 0
      · rw [h0]; decide
      · rw [Nat.log2_lt h0]
        refine Nat.lt_of_lt_of_le (show x.natAbs < 2 ^ 30 by unfold bndR at hx; omega) (Nat.pow_le_pow_right (by decide) (by decide))
    simp [PyData.showableAll, PyData.showable, h1, showableAll_int xs fun y hy => h y (by simp [hy])]
theorem depthAll_int (xs : List Int) : PyData.depthAll (xs.map PyData.int) = 0 := by
  have := depthAll_of (n := 0) (xs.map PyData.int) (fun d hd => by obtain ⟨i, _, rfl⟩ := List.mem_map.mp hd; simp [PyData.depth])
  omega
theorem sum_le2 : ∀ (l : List Int), (∀ x ∈ l, bndR x) → ((l.map fun i => (Str.ofString (toString i)).length).sum) ≤ 13 * l.length
  | [], _ => by simp
  | x :: l, h => by
    have h1 := sum_le2 l fun y hy => h y (by simp [hy])
    have h2 := numI_len3 (h x (by simp))
    rw [List.map_cons, List.sum_cons, List.length_cons, numI_S, S_len]
    omega
theorem repr_ok {s : Sg} {xs : List Int} (hb : ∀ x ∈ xs, bndR x) (hl : xs.length ≤ 1000) : vRepr [.tup (xs.map .int)] s = .ok (.str (rp xs)) s := by
  have h1 : (PyData.tuple (xs.map PyData.int)).showable = true := by simp only [PyData.showable, showableAll_int xs hb]
  have h2 : (PyData.tuple (xs.map PyData.int)).depth ≤ dD := by simp only [PyData.depth, depthAll_int]; decide
  have h3 : (PyData.tuple (xs.map PyData.int)).shown.length ≤ sizeLine := by
    show (rp xs).length ≤ sizeLine
    rw [rp_eq]
    have := PySem.tupleText_len_le (xs.map fun i => Str.ofString (toString i))
    have h4 := sum_le2 xs hb
    rw [List.map_map, List.length_map] at this
    have h5 : (xs.map ((·.length) ∘ fun i => Str.ofString (toString i))).sum = (xs.map fun i => (Str.ofString (toString i)).length).sum := rfl
    rw [h5] at this
    exact Nat.le_trans this (Nat.le_trans (by omega) (show 100000 ≤ sizeLine by decide))
  simp only [vRepr, toD_ints, h1, h2, h3, decide_true, Bool.and_self, if_true]
  rfl
theorem ne_rp {s : Sg} {xs : List Int} : vNe (.str (rp xs)) (.str (rp xs)) s = .ok (.bl false) s := by
  have e1 : toD s dD (.str (rp xs)) = some (.str (rp xs)) := toD_str (k := 59)
  have e2 : SeqAt.shaped (.str (rp xs)) = true := Bool.and_eq_true_iff.mpr ⟨canLay_rp xs, decide_eq_true (by simp [PyData.depth])⟩
  have e3 : PyData.eqv (.str (rp xs)) (.str (rp xs)) = true := by simp [PyData.eqv]
  simp only [vNe, eqP, e1, e2, e3, Bool.and_self, if_true, Bool.not_true]
theorem eqvAll_int : ∀ xs : List Int, PyData.eqvAll (xs.map PyData.int) (xs.map PyData.int) = true
  | [] => by simp [PyData.eqvAll]
  | x :: xs => by simp [PyData.eqvAll, PyData.eqv, eqvAll_int xs]
theorem ne_tup {s : Sg} {xs : List Int} : vNe (.tup (xs.map .int)) (.tup (xs.map .int)) s = .ok (.bl false) s := by
  have e2 : SeqAt.shaped (.tuple (xs.map PyData.int)) = true := shaped_tuple (fun d hd => by obtain ⟨i, _, rfl⟩ := List.mem_map.mp hd; simp [PyData.canLay0]) (fun d hd => by obtain ⟨i, _, rfl⟩ := List.mem_map.mp hd; simp [PyData.depth])
  have e3 : PyData.eqv (.tuple (xs.map PyData.int)) (.tuple (xs.map PyData.int)) = true := by simp only [PyData.eqv, eqvAll_int]
  simp only [vNe, eqP, toD_ints, e2, e3, Bool.and_self, if_true, Bool.not_true]

def rpB (b : Bool) : Str := PyData.shown (.bool b)
theorem repr_bl {s : Sg} {b : Bool} : vRepr [.bl b] s = .ok (.str (rpB b)) s := by
  cases b <;> kernel_rfl
theorem ne_rpB {s : Sg} {a b : Bool} : vNe (.str (rpB a)) (.str (rpB b)) s = .ok (.bl (a != b)) s := by
  cases a <;> cases b <;> kernel_rfl
@[simp] theorem vNe_bl {s : Sg} {a b : Bool} : vNe (.bl a) (.bl b) s = .ok (.bl (a != b)) s := by
  cases a <;> cases b <;> kernel_rfl
end Bi
namespace Bi
open PySem L2 SX
theorem wp_lcI {it : Wk} {vs : List Nat} {g : PV → Sl → Option Sl} {e : ME} {φ : Phi} {p : Sl} {d : Nat} {Q : Unit → Sg → Prop} (Inv : List PV → List PV → Sg → Prop) (hok : ∀ ys acc s, Inv ys acc s → it.ok s ∧ s.g[d]? = some (.lst acc) ∧ acc.length < 1000)
    (hstep : ∀ y ys acc s, Inv (y :: ys) acc s → ∃ p1, g y (wipeP p vs) = some p1 ∧ wpR (e φ p1 s) fun v s2 => s2.g[d]? = some (.lst acc) ∧ Inv ys (acc ++ [v]) (s2.wr d (.lst (acc ++ [v]))))
    (hend : ∀ acc s, Inv [] acc s → Q () s) : ∀ (xs acc : List PV) (s : Sg), Inv xs acc s → wpR (lcM it vs g (mC (.bl true)) e d φ p xs s) Q
  | [], acc, s, h => by
    unfold lcM
    rw [if_pos (hok _ _ _ h).1]
    exact hend acc s h
  | x :: xs, acc, s, h => by
    unfold lcM
    rw [if_pos (hok _ _ _ h).1]
    obtain ⟨p1, e1, w⟩ := hstep x xs acc s h
    rw [e1]
    dsimp only
    rw [show mC (.bl true) φ p1 s = .ok (.bl true) s from rfl]
    dsimp only
    obtain ⟨v, s2, e2, h2, h3⟩ := wpR_some w
    rw [e2]
    dsimp only
    rw [h2]
    dsimp only
    rw [if_pos (Nat.lt_of_lt_of_le (hok _ _ _ h).2.2 (by decide))]
    exact wp_lcI Inv hok hstep hend xs (acc ++ [v]) _ h3
section
variable {s : Sg}
theorem keyN2 (x : Str) : Bi.keyOf (.str x) = some (.inr x) := rfl
theorem dix {s : Sg} {m : Nat} {kvs : List (Key × PV)} {t : Bool} {k : Str} {v : PV} (e : s.g[m]? = some (.dic kvs t)) (d : dGet kvs (.inr k : Key) = some v) : vIx (.ref m) (.str k) s = .ok v s := ixD e (keyN2 _) d
@[simp] theorem ev_rng2 {φ : Phi} {ml : ML} {p : Sl} {s : Sg} : mRng2 ml φ p s = (ml φ p s).bind vRng2 := (rfl)
theorem rng2_ok {a b : Int} (h0 : -1000000000 ≤ a) (h1 : a < 1000000000) (h2 : -1000000000 ≤ b) (h3 : b < 1000000000) : vRng2 [.int a, .int b] s = .ok ⟨rngP a (b - a).toNat, [], none⟩ s := by
  have ha : smallI a = true := by
    unfold smallI
    simp only [Bool.and_eq_true, decide_eq_true_eq]
    omega
  have hb : smallI b = true := by
    unfold smallI
    simp only [Bool.and_eq_true, decide_eq_true_eq]
    omega
  simp only [vRng2, ha, hb, Bool.and_self, if_true]
theorem minL_iff {xs : List Int} {m : Int} : minL xs = some m ↔ m ∈ xs ∧ ∀ x ∈ xs, m ≤ x := by
  have key : ∀ (l : List Int) (a : Int), (l.foldl (fun a b => if b < a then b else a) a ∈ a :: l) ∧ ∀ x ∈ a :: l, l.foldl (fun a b => if b < a then b else a) a ≤ x := by
    intro l
    induction l with
    | nil => intro a; simp
    | cons b l ih =>
      intro a
      rw [List.foldl_cons]
      obtain ⟨h1, h2⟩ := ih (if b < a then b else a)
      constructor
      · rcases List.mem_cons.mp h1 with h | h
        · rw [h]; split <;> simp
        · simp [h]
      · intro x hx
        have h3 := h2 (if b < a then b else a) (by simp)
        rcases List.mem_cons.mp hx with rfl | hx
        · refine Int.le_trans h3 ?_; split <;> omega
        · rcases List.mem_cons.mp hx with rfl | hx
          · refine Int.le_trans h3 ?_; split <;> omega
          · exact h2 x (by simp [hx])
  cases xs with
  | nil => simp [minL]
  | cons a l =>
    obtain ⟨h1, h2⟩ := key l a
    simp only [minL, Option.some.injEq]
    constructor
    · rintro rfl; exact ⟨h1, h2⟩
    · rintro ⟨h3, h4⟩
      have := h2 m h3
      have := h4 _ h1
      omega
theorem minL_some {xs : List Int} (h : xs ≠ []) : ∃ m, minL xs = some m := by
  cases xs with
  | nil => exact absurd rfl h
  | cons a l => exact ⟨_, rfl⟩
theorem maxL_some' {xs : List Int} (h : xs ≠ []) : ∃ m, maxL xs = some m := by
  cases xs with
  | nil => exact absurd rfl h
  | cons a l => exact ⟨_, rfl⟩
end
end Bi

end
section
set_option Elab.async false
set_option linter.all false
set_option autoImplicit false
set_option maxRecDepth 100000
set_option maxHeartbeats 1000000
/-! BiV: values of any kind (what a law's bent and odd values are). -/
namespace Bi
open PySem L2 SX
/-- what may lie in a tuple of such a value -/
def El : PV → Bool
  | .int _ => true | .bl _ => true | .str _ => true | .non => true | .tup _ => true | _ => false
/-- a value without references -/
def flatB (v : PV) : Bool := El v && v.bd 0 && match v with | .tup xs => decide (xs.length ≤ 100) && xs.all El | _ => true
/-- no reference, or one to a list or dict without references -/
def Nv (lo hi : Nat) (s : Sg) (v : PV) : Prop := flatB v = true ∨ ∃ (r : Nat) (o : PO), v = .ref r ∧ lo ≤ r ∧ r < hi ∧ s.g[r]? = some o ∧ o.bd 0 = true ∧ ((∃ xs, o = .lst xs) ∨ ∃ kvs b, o = .dic kvs b)
section
variable {lo hi lo' hi' n low : Nat} {s s' : Sg} {v : PV} {ns : List Nat} {Q : PV → Sg → Prop}
theorem flatB_bd (h : flatB v = true) : v.bd 0 = true := by
  unfold flatB at h
  simp only [Bool.and_eq_true] at h
  exact h.1.2
theorem Nv.fx (h : Nv lo hi s v) (E : Fx ns s s') (hn : ∀ i ∈ ns, i < lo ∨ hi ≤ i) : Nv lo hi s' v := by
  rcases h with h | ⟨r, o, rfl, h1, h2, h3, h4⟩
  · exact .inl h
  · refine .inr ⟨r, o, rfl, h1, h2, E.get h3 fun hm => ?_, h4⟩
    rcases hn r hm with z | z <;> omega
theorem Nv.kp (h : Nv lo hi s v) (E : Kp n s s') (hn : hi ≤ n) : Nv lo hi s' v := by
  rcases h with h | ⟨r, o, rfl, h1, h2, h3, h4⟩
  · exact .inl h
  · exact .inr ⟨r, o, rfl, h1, h2, E.get h3 (by omega), h4⟩
theorem Nv.mono (h : Nv lo hi s v) (h1 : lo' ≤ lo) (h2 : hi ≤ hi') : Nv lo' hi' s v := by
  rcases h with h | ⟨r, o, rfl, a1, a2, a3, a4⟩
  · exact .inl h
  · exact .inr ⟨r, o, rfl, by omega, by omega, a3, a4⟩
theorem Nv.top (h : Nv lo hi s v) : Nv lo hi s.top v := h
theorem Nv.lstR {r : Nat} {xs : List PV} (h : s.g[r]? = some (.lst xs)) (h1 : lo ≤ r) (h2 : r < hi) (hb : PO.bd 0 (.lst xs) = true) : Nv lo hi s (.ref r) := .inr ⟨r, _, rfl, h1, h2, h, hb, .inl ⟨_, rfl⟩⟩
theorem Nv.dicR {r : Nat} {kvs : List (Key × PV)} {b : Bool} (h : s.g[r]? = some (.dic kvs b)) (h1 : lo ≤ r) (h2 : r < hi) (hb : PO.bd 0 (.dic kvs b) = true) : Nv lo hi s (.ref r) := .inr ⟨r, _, rfl, h1, h2, h, hb, .inr ⟨_, _, rfl⟩⟩
theorem Nv.lt (h : Nv lo hi s v) : Nv lo s.g.length s v := by
  rcases h with h | ⟨r, o, rfl, a1, a2, a3, a4⟩
  · exact .inl h
  · exact .inr ⟨r, o, rfl, a1, lt_of_get a3, a3, a4⟩
/-- such a value behind garbage -/
theorem gcv_nv (hl : n ≤ s.g.length) (hlo : lo ≤ n) (h : Nv lo hi s v) (q : ∀ v' s', Kp n s s' → Nv lo s'.g.length s' v' → (flatB v = true → v' = v) → Q v' s') : wpR (gcV n low v s) Q := by
  rcases h with h | ⟨r, o, rfl, h1, h2, h3, h4, h5⟩
  · exact gcv_flat hl (flatB_bd h) fun s' K => q v s' K (.inl h) fun _ => rfl
  · by_cases hr : r < n
    · refine gcv_old hl (by rw [PV.bd]; simpa using hr) fun s' K => q _ s' K (.inr ⟨r, o, rfl, h1, ?_, K.get h3 hr, h4, h5⟩) fun _ => rfl
      exact lt_of_get (K.get h3 hr)
    · refine gcv_new hl (by omega) h3 h4 fun m' s' K hm e => q _ s' K (.inr ⟨m', o, rfl, by omega, lt_of_get e, e, h4, h5⟩) fun z => by cases z
theorem el_cases {x : PV} (h : El x = true) : (∃ i, x = .int i) ∨ (∃ b, x = .bl b) ∨ (∃ z, x = .str z) ∨ x = .non ∨ ∃ xs, x = .tup xs := by
  cases x with
  | int i => exact .inl ⟨_, rfl⟩
  | bl b => exact .inr (.inl ⟨_, rfl⟩)
  | str z => exact .inr (.inr (.inl ⟨_, rfl⟩))
  | non => exact .inr (.inr (.inr (.inl rfl)))
  | tup xs => exact .inr (.inr (.inr (.inr ⟨_, rfl⟩)))
  | _ => cases h
theorem flat_tup {xs : List PV} (h : flatB (.tup xs) = true) : xs.length ≤ 100 ∧ ∀ x ∈ xs, El x = true := by
  unfold flatB at h
  simp only [Bool.and_eq_true, decide_eq_true_eq] at h
  exact ⟨h.2.1, List.all_eq_true.mp h.2.2⟩
theorem flat_mk {xs : List PV} (h1 : xs.length ≤ 100) (h2 : ∀ x ∈ xs, El x = true ∧ x.bd 0 = true) : flatB (.tup xs) = true := by
  unfold flatB
  rw [bd_tup]
  simp only [El, Bool.true_and, Bool.and_eq_true, decide_eq_true_eq, List.all_eq_true]
  exact ⟨fun x hx => (h2 x hx).2, h1, fun x hx => (h2 x hx).1⟩
theorem flat_map {α : Type} {l : List α} {f : α → PV} (h1 : l.length ≤ 100) (h2 : ∀ x, El (f x) = true ∧ (f x).bd 0 = true) : flatB (.tup (l.map f)) = true :=
  flat_mk (by simpa using h1) fun x hx => by obtain ⟨a, _, rfl⟩ := List.mem_map.mp hx; exact h2 a
theorem flat_ints {l : List Int} (h : l.length ≤ 100) : flatB (.tup (l.map .int)) = true := flat_map h fun _ => ⟨rfl, by rw [PV.bd]⟩
theorem flat_el {xs : List PV} (h : flatB (.tup xs) = true) : ∀ x ∈ xs, El x = true ∧ x.bd 0 = true := fun x hx => by
  have hb := flatB_bd h
  rw [bd_tup] at hb
  exact ⟨(flat_tup h).2 x hx, List.all_eq_true.mp hb x hx⟩
@[simp] theorem isi_bl_int {b : Bool} : vIsi [.bl b, .ty "int"] s = .ok (.bl true) s := by simp [vIsi, tyName]
@[simp] theorem isi_bl_bool {b : Bool} : vIsi [.bl b, .ty "bool"] s = .ok (.bl true) s := by simp [vIsi, tyName]
@[simp] theorem isi_bl_tup {b : Bool} : vIsi [.bl b, .ty "tuple"] s = .ok (.bl false) s := by simp [vIsi, tyName]
@[simp] theorem isi_bl_str {b : Bool} : vIsi [.bl b, .ty "str"] s = .ok (.bl false) s := by simp [vIsi, tyName]
@[simp] theorem isi_str_int {z : Str} : vIsi [.str z, .ty "int"] s = .ok (.bl false) s := by simp [vIsi, tyName]
@[simp] theorem isi_str_tup {z : Str} : vIsi [.str z, .ty "tuple"] s = .ok (.bl false) s := by simp [vIsi, tyName]
@[simp] theorem isi_non_int : vIsi [.non, .ty "int"] s = .ok (.bl false) s := by simp [vIsi, tyName]
@[simp] theorem isi_non_tup : vIsi [.non, .ty "tuple"] s = .ok (.bl false) s := by simp [vIsi, tyName]
@[simp] theorem isi_tup_int {xs : List PV} : vIsi [.tup xs, .ty "int"] s = .ok (.bl false) s := by simp [vIsi, tyName]
@[simp] theorem isi_int_tup {i : Int} : vIsi [.int i, .ty "tuple"] s = .ok (.bl false) s := by simp [vIsi, tyName]
@[simp] theorem isi_int_str {i : Int} : vIsi [.int i, .ty "str"] s = .ok (.bl false) s := by simp [vIsi, tyName]
/-- not a tuple: told so -/
theorem isi_no_tup (h : Nv lo hi s v) (hn : ∀ xs, v ≠ .tup xs) : vIsi [v, .ty "tuple"] s = .ok (.bl false) s := by
  rcases h with h | ⟨r, o, rfl, h1, h2, h3, h4, h5⟩
  · have he : El v = true := by
      unfold flatB at h
      simp only [Bool.and_eq_true] at h
      exact h.1.1
    rcases el_cases he with ⟨i, rfl⟩ | ⟨i, rfl⟩ | ⟨i, rfl⟩ | rfl | ⟨i, rfl⟩
    · exact isi_int_tup
    · exact isi_bl_tup
    · exact isi_str_tup
    · exact isi_non_tup
    · exact absurd rfl (hn i)
  · rcases h5 with ⟨xs, rfl⟩ | ⟨kvs, b, rfl⟩ <;> simp [vIsi, tyName, h3]
theorem catT {xs ys : List PV} (h : xs.length + ys.length < 1000) : vAdd (.tup xs) (.tup ys) s = .ok (.tup (xs ++ ys)) s := by
  show (if xs.length + ys.length ≤ sizeLine then R.ok (PV.tup (xs ++ ys)) s else R.bad) = _
  rw [if_pos (Nat.le_trans (Nat.le_of_lt h) (by decide))]
theorem ev_rev {m ms : ME} {φ : Phi} {p : Sl} : mRev m ms φ p s = (m φ p s).bind fun v s => (mPart (some ms) φ p s).bind fun o s => vRev v o s := rfl
theorem repK {x : PV} {k : Nat} (h1 : 1 ≤ k) (h2 : k ≤ 100) : vRep (.tup [x]) (.int (k : Int)) s = .ok (.tup (List.replicate k x)) s := by
  unfold vRep
  by_cases h : k = 1
  · subst h; rfl
  · have h3 : ¬ ((k : Int) = 1) := by omega
    have e : (List.replicate k [x]).flatten = List.replicate k x := by
      clear h1 h2 h h3
      induction k with
      | zero => rfl
      | succ k ih => rw [List.replicate_succ, List.flatten_cons, ih]; rfl
    simp only [h3, if_false]
    rw [if_pos (by simp; omega), Int.toNat_natCast, e]
@[simp] theorem vBool_int {i : Int} : vBool [.int i] s = .ok (.bl (i != 0)) s := rfl
/-- an element otherwise -/
theorem ne_tup0 {p : List Int} (h : p ≠ []) : vNe (.tup (p.map .int)) (.tup []) s = .ok (.bl true) s := by
  have e2 : toD s dD (.tup ([] : List PV)) = some (.tuple []) := toD_ints []
  have e3 := shaped_tuple (ds := p.map PyData.int) (fun d hd => by obtain ⟨i, _, rfl⟩ := List.mem_map.mp hd; simp [PyData.canLay0]) (fun d hd => by obtain ⟨i, _, rfl⟩ := List.mem_map.mp hd; simp [PyData.depth])
  have e4 := shaped_tuple (ds := []) (fun d hd => by cases hd) (fun d hd => by cases hd)
  have e5 : PyData.eqv (.tuple (p.map .int)) (.tuple []) = false := by
    cases p with
    | nil => exact absurd rfl h
    | cons x p => simp [PyData.eqv, PyData.eqvAll]
  simp only [vNe, eqP, toD_ints, e2, e3, e4, Bool.and_self, if_true, e5, Bool.not_false]
theorem cut_len {xs : List PV} {lo hi : Option Int} : (cutP xs lo hi).length ≤ xs.length := by
  unfold cutP
  rw [List.length_take, List.length_drop]
  omega
theorem cut_mem {xs : List PV} {lo hi : Option Int} {x : PV} (h : x ∈ cutP xs lo hi) : x ∈ xs := List.mem_of_mem_drop (List.mem_of_mem_take h)
theorem slT_any {xs : List PV} {lo hi : Option Int} : vSl (.tup xs) lo hi s = .ok (.tup (cutP xs lo hi)) s := rfl
theorem flat_cut {xs : List PV} {lo hi : Option Int} (h : flatB (.tup xs) = true) : flatB (.tup (cutP xs lo hi)) = true :=
  flat_mk (Nat.le_trans cut_len (flat_tup h).1) fun x hx => flat_el h x (cut_mem hx)
theorem flat_rev {xs : List PV} (h : flatB (.tup xs) = true) : flatB (.tup xs.reverse) = true :=
  flat_mk (by rw [List.length_reverse]; exact (flat_tup h).1) fun x hx => flat_el h x (List.mem_reverse.mp hx)
theorem flat_app {xs ys : List PV} (h : flatB (.tup xs) = true) (h2 : flatB (.tup ys) = true) (hl : xs.length + ys.length ≤ 100) : flatB (.tup (xs ++ ys)) = true :=
  flat_mk (by rw [List.length_append]; exact hl) fun x hx => by
    rcases List.mem_append.mp hx with hx | hx
    · exact flat_el h x hx
    · exact flat_el h2 x hx
theorem rev_ok {xs : List PV} (h : xs.length ≤ 1000) : vRev (.tup xs) (some (-1)) s = .ok (.tup xs.reverse) s := by
  unfold vRev
  simp only
  first
    | rfl
    | (rw [if_pos (by first | decide | exact Nat.le_trans h (by decide) | simp)])
end
end Bi

end
section
set_option linter.all false
set_option autoImplicit false
set_option maxRecDepth 100000
set_option maxHeartbeats 2000000
namespace K00
open PySem L2 Bi SX
/-- the pot: [own digits, a seed, a count of at most c] -/
def PotAt (s : Sg) (n : Nat) (c : Nat) : Prop := ∃ a b c0 : Int, s.g[n]? = some (.lst [.int a, .int b, .int c0]) ∧ 0 ≤ a ∧ 0 ≤ b ∧ b < 2305843009213693952 ∧ 0 ≤ c0 ∧ c0 ≤ c
theorem PotAt.mono {s : Sg} {n c d : Nat} (h : PotAt s n c) (hc : c ≤ d) : PotAt s n d := by
  obtain ⟨a, b, c0, h1, h2, h3, h4, h5, h6⟩ := h
  exact ⟨a, b, c0, h1, h2, h3, h4, h5, by omega⟩
theorem PotAt.lt {s : Sg} {n c : Nat} (h : PotAt s n c) : n < s.g.length := by
  obtain ⟨a, b, c0, h1, _⟩ := h
  exact lt_of_get h1
theorem PotAt.of {s s' : Sg} {n c : Nat} (h : PotAt s n c) (e : s'.g[n]? = s.g[n]?) : PotAt s' n c := by
  unfold PotAt at h ⊢
  rw [e]
  exact h
theorem PotAt.push {s : Sg} {n c : Nat} (h : PotAt s n c) (o : PO) : PotAt (s.push o) n c := h.of (by rw [push_g]; exact List.getElem?_append_left h.lt)
theorem PotAt.top {s : Sg} {n c : Nat} (h : PotAt s n c) : PotAt s.top n c := h
theorem PotAt.wr {s : Sg} {n m c : Nat} (h : PotAt s n c) (hm : m ≠ n) (o : PO) : PotAt (s.wr m o) n c := h.of (by rw [wr_g]; exact List.getElem?_set_ne hm)
theorem PotAt.fx {s s' : Sg} {n c : Nat} {ns : List Nat} (h : PotAt s n c) (k : Fx ns s s') (hn : n ∉ ns) : PotAt s' n c := h.of (k.same n h.lt hn)
theorem PotAt.kp {s s' : Sg} {n m c : Nat} (h : PotAt s n c) (k : Kp m s s') (hn : n < m) : PotAt s' n c := h.of (k.same n hn)
theorem PotAt.gc {s : Sg} {n m c l : Nat} (h : PotAt s n c) (hn : n < m) : PotAt (gcst m l s) n c := h.of (gcst_get hn)
theorem take_ev {φ : Phi} {s : Sg} {n : Nat} {a b c k : Int} (h : s.g[n]? = some (.lst [.int a, .int b, .int c])) (ha : 0 ≤ a) (hb : 0 ≤ b ∧ b < 2305843009213693952) (hc : 0 ≤ c ∧ c < 1152921504606846976) (hk : 0 < k ∧ k < 1073741824) :
    ∃ d a' c', 0 ≤ d ∧ d < k ∧ 0 ≤ a' ∧ c ≤ c' ∧ c' ≤ c + 1 ∧ runFn m__law_take 5 φ [.ref n, .int k] s = .ok (.int d) ⟨s.g.set n (.lst [.int a', .int b, .int c']), s.low⟩ := by
  have hn : n < s.g.length := (List.getElem?_eq_some_iff.mp h).1
  by_cases h0 : 0 < a
  · refine ⟨a % k, a / k, c, Int.emod_nonneg _ (by omega), Int.emod_lt_of_pos _ hk.1, ?_, by omega, by omega, ?_⟩
    · exact Int.ediv_nonneg ha (by omega)
    · simp [runFn, m__law_take, mVar, vIx, startP, Sg.top, h, vGt, h0, opt, atI, Bi.vInt, vMod, hk.1, hk.2, vDiv, vSetIx, ixN, Sg.wr, gcR, gcV, endR, PV.bd, PO.bd]
      exact List.take_of_length_le (by simp)
  · have h1 : ∃ q : Int, 0 < q ∧ q < 2147483648 ∧ atI [PV.int 2147483647, .int 2147483629, .int 2147483587, .int 2147483579, .int 2147483563] ((c + 1) % 5) = some (.int q) := by
      have h5 : (c + 1) % 5 = 0 ∨ (c + 1) % 5 = 1 ∨ (c + 1) % 5 = 2 ∨ (c + 1) % 5 = 3 ∨ (c + 1) % 5 = 4 := by omega
      rcases h5 with h5 | h5 | h5 | h5 | h5 <;> rw [h5]
      · exact ⟨2147483647, by decide, by decide, rfl⟩
      · exact ⟨2147483629, by decide, by decide, rfl⟩
      · exact ⟨2147483587, by decide, by decide, rfl⟩
      · exact ⟨2147483579, by decide, by decide, rfl⟩
      · exact ⟨2147483563, by decide, by decide, rfl⟩
    obtain ⟨q, hq0, hq1, hq2⟩ := h1
    have hg : (s.g.set n (PO.lst [PV.int a, PV.int b, PV.int (c + 1)]))[n]? = some (PO.lst [PV.int a, PV.int b, PV.int (c + 1)]) := by rw [List.getElem?_set_self hn]
    have e1 : ∀ t o, (s.g.set n t ++ [o])[n]? = some t := fun t o => by rw [List.getElem?_append_left (by simpa using hn), List.getElem?_set_self hn]
    have e2 : ∀ t, (s.g.set n t)[n]? = some t := fun t => List.getElem?_set_self hn
    have e3 : ∀ t o, (s.g.set n t ++ [o])[s.g.length]? = some o := fun t o => by rw [List.getElem?_append_right (by simp)]; simp
    have e4 : ∀ t o, List.take s.g.length (s.g.set n t ++ [o]) = s.g.set n t := fun t o => by rw [List.take_append_of_le_length (by simp)]; exact List.take_of_length_le (by simp)
    have hbl : 0 ≤ (b + 95471 * (c + 1) * (c + 1) + 203) ^ 3 % q ∧ (b + 95471 * (c + 1) * (c + 1) + 203) ^ 3 % q < q := ⟨Int.emod_nonneg _ (by omega), Int.emod_lt_of_pos _ hq0⟩
    refine ⟨((b + 95471 * (c + 1) * (c + 1) + 203) ^ 3 % q * ((b + 95471 * (c + 1) * (c + 1) + 203) ^ 3 % q % 10039 + 91 * (c + 1)) / 131) % k, a, c + 1, Int.emod_nonneg _ (by omega), Int.emod_lt_of_pos _ hk.1, ha, by omega, by omega, ?_⟩
    have m1 : cMul 95471 (c + 1) = true := by unfold cMul; simp
    have m2 : cMul (95471 * (c + 1)) (c + 1) = true := by unfold cMul; simp only [Bool.or_eq_true, Bool.and_eq_true, decide_eq_true_eq]; right; omega
    have m4 : cMul 91 (c + 1) = true := by unfold cMul; simp
    have m3 : ∀ z : Int, cMul ((b + 95471 * (c + 1) * (c + 1) + 203) ^ 3 % q) z = true := fun z => by unfold cMul; simp only [Bool.or_eq_true, Bool.and_eq_true, decide_eq_true_eq]; left; omega
    have m5 : cPow (b + 95471 * (c + 1) * (c + 1) + 203) 3 = true := by
      have h1 : 0 ≤ (c + 1) * (c + 1) := Int.mul_nonneg (by omega) (by omega)
      have h2 : (c + 1) * (c + 1) ≤ 1152921504606846976 * 1152921504606846976 := Int.mul_le_mul (by omega) (by omega) (by omega) (by omega)
      have h3 : 95471 * (c + 1) * (c + 1) = 95471 * ((c + 1) * (c + 1)) := by rw [Int.mul_assoc]
      unfold cPow; simp only [Bool.and_eq_true, decide_eq_true_eq]
      rw [h3]
      refine ⟨by omega, by omega, by omega, by omega⟩
    simp [runFn, m__law_take, mVar, vIx, startP, Sg.top, h, vGt, h0, opt, Bi.vInt, vMod, hk.1, hk.2, vDiv, vSetIx, ixN, Sg.wr, gcR, gcV, endR, PV.bd, PO.bd, vAdd, Sg.push, hq2, hq0, vMul, vPow, e1, e2, e3, e4, m1, m2, m3, m4, m5, show atI [PV.int a, PV.int b, PV.int c] 0 = some (.int a) from rfl, show atI [PV.int a, PV.int b, PV.int c] 2 = some (.int c) from rfl, show atI [PV.int a, PV.int b, PV.int (c + 1)] 2 = some (.int (c + 1)) from rfl, show atI [PV.int a, PV.int b, PV.int (c + 1)] 1 = some (.int b) from rfl]
    exact List.take_of_length_le (by simp)
theorem take_wp {j : Nat} {s : Sg} {n c : Nat} {k : Int} {Q : PV → Sg → Prop} (h : PotAt s n c) (hc : c < 1152921504606846976) (hk : 0 < k ∧ k < 1073741824) (q : ∀ d s', 0 ≤ d → d < k → PotAt s' n (c + 1) → Fx [n] s s' → Q (.int d) s') :
    wpR (Ph rs (j + 1) "_law_take" [.ref n, .int k] s) Q := by
  rw [Ph_at (r := r__law_take) (by kernel_rfl) rfl]
  obtain ⟨a, b, c0, e, h1, h2, h3, h4, h5⟩ := h
  have hn : n < s.g.length := lt_of_get e
  obtain ⟨d, a', c', d1, d2, d3, d4, d5, d6⟩ := take_ev (φ := Ph rs j) e h1 ⟨h2, h3⟩ ⟨h4, by omega⟩ hk
  rw [show runFn r__law_take.m r__law_take.N.length (Ph rs j) [.ref n, .int k] s = runFn m__law_take 5 (Ph rs j) [.ref n, .int k] s from rfl, d6]
  refine q d _ d1 d2 ⟨a', b, c', List.getElem?_set_self hn, d3, h2, h3, by omega, by omega⟩ ⟨by simp, fun i _ h2 => List.getElem?_set_ne (by simpa using fun z => h2 (by simp [z]))⟩
theorem of_wp {j : Nat} {s : Sg} {n c m : Nat} {xs : List PV} {Q : PV → Sg → Prop} (h : PotAt s n c) (hc : c < 1152921504606846976) (hm : s.g[m]? = some (.lst xs)) (hmn : m ≠ n) (h0 : 0 < xs.length) (h1 : xs.length < 1000000) (hb : ∀ x ∈ xs, x.bd 0 = true)
    (q : ∀ x s', x ∈ xs → PotAt s' n (c + 1) → Fx [n] s s' → Q x s') : wpR (Ph rs (j + 2) "_law_of" [.ref n, .ref m] s) Q := by
  refine wp_call r__law_of m__law_of 2 (by kernel_rfl) rfl rfl rfl ?_
  simp [m__law_of, startP, vLen_lst (show s.top.g[m]? = _ from hm)]
  refine take_wp h.top hc ⟨by omega, by omega⟩ fun d s1 d0 d1 P E => ?_
  have hm1 := E.get (show s.top.g[m]? = _ from hm) (by simpa using hmn)
  obtain ⟨x, ex, hx⟩ := atI_in (xs := xs) d0 d1
  simp [vIx, hm1, ex, opt]
  rw [gcV_flat (hb x hx), wpR_ok]
  exact q x _ hx (P.gc h.lt) (E.top.gc0)
end K00

end
section
set_option linter.all false
set_option autoImplicit false
set_option maxRecDepth 100000
set_option maxHeartbeats 4000000
namespace K00
open PySem L2 Bi SX
/-- v has no references, or is one to a cell without; its data -/
def Nd (lo hi : Nat) (s : Sg) (v : PV) (d : PyData) : Prop := (v.bd 0 = true ∧ ∀ (s' : Sg) (k : Nat), toX s' (k + 4) v = some d) ∨
  ∃ (r : Nat) (o : PO), v = .ref r ∧ lo ≤ r ∧ r < hi ∧ s.g[r]? = some o ∧ o.bd 0 = true ∧ ∀ (s' : Sg) (r' k : Nat), s'.g[r']? = some o → toX s' (k + 4) (.ref r') = some d
section
variable {j n m c lo hi lo' hi' low : Nat} {s s' : Sg} {v x : PV} {d : PyData} {ns : List Nat} {Q : PV → Sg → Prop} {D : List PyData}
theorem Nd.fx (h : Nd lo hi s v d) (E : Fx ns s s') (hn : ∀ i ∈ ns, i < lo ∨ hi ≤ i) : Nd lo hi s' v d := by
  rcases h with h | ⟨r, o, rfl, h1, h2, h3, h4⟩
  · exact .inl h
  · refine .inr ⟨r, o, rfl, h1, h2, E.get h3 fun hm => ?_, h4⟩
    rcases hn r hm with z | z <;> omega
theorem Nd.mono (h : Nd lo hi s v d) (h1 : lo' ≤ lo) (h2 : hi ≤ hi') : Nd lo' hi' s v d := by
  rcases h with h | ⟨r, o, rfl, a1, a2, a3, a4⟩
  · exact .inl h
  · exact .inr ⟨r, o, rfl, by omega, by omega, a3, a4⟩
theorem Nd.lt (h : Nd lo hi s v d) : Nd lo s.g.length s v d := by
  rcases h with h | ⟨r, o, rfl, a1, a2, a3, a4⟩
  · exact .inl h
  · exact .inr ⟨r, o, rfl, a1, lt_of_get a3, a3, a4⟩
theorem gcv_nd (hl : n ≤ s.g.length) (hlo : lo ≤ n) (h : Nd lo hi s v d) (q : ∀ v' s', Kp n s s' → Nd lo s'.g.length s' v' d → Q v' s') : wpR (gcV n low v s) Q := by
  rcases h with h | ⟨r, o, rfl, h1, h2, h3, h4, h5⟩
  · exact gcv_flat hl h.1 fun s' K => q v s' K (.inl h)
  · by_cases hr : r < n
    · refine gcv_old hl (by rw [PV.bd]; simpa using hr) fun s' K => q _ s' K (.inr ⟨r, o, rfl, h1, ?_, K.get h3 hr, h4, h5⟩)
      exact lt_of_get (K.get h3 hr)
    · exact gcv_new hl (by omega) h3 h4 fun m' s' K hm e => q _ s' K (.inr ⟨m', o, rfl, by omega, lt_of_get e, e, h4, h5⟩)
theorem of_nd {xs : List PV} (h : PotAt s n c) (hc : c < 1152921504606846976) (hm : s.g[m]? = some (.lst xs)) (hmn : m ≠ n) (h0 : 0 < xs.length) (h1 : xs.length < 1000000) (hlo : lo ≤ s.g.length) (hn : n < lo) (hb : ∀ x ∈ xs, ∃ d ∈ D, Nd lo hi s x d)
    (q : ∀ x d s', d ∈ D → Nd lo s'.g.length s' x d → PotAt s' n (c + 1) → Fx [n] s s' → Q x s') : wpR (Ph rs (j + 2) "_law_of" [.ref n, .ref m] s) Q := by
  refine wp_call r__law_of m__law_of 2 (by kernel_rfl) rfl rfl rfl ?_
  simp [m__law_of, startP, vLen_lst (show s.top.g[m]? = _ from hm)]
  refine take_wp h.top hc ⟨by omega, by omega⟩ fun d s1 d0 d1 P E => ?_
  have hm1 := E.get (show s.top.g[m]? = _ from hm) (by simpa using hmn)
  obtain ⟨x, ex, hx⟩ := atI_in (xs := xs) d0 d1
  simp [vIx, hm1, ex, opt]
  have E1 : Fx [n] s s1 := E.top
  obtain ⟨dt, hd, hN⟩ := hb x hx
  have hx1 : Nd lo s1.g.length s1 x dt := (hN.lt.fx E1 (by simp; omega)).lt
  exact gcv_nd (n := s.g.length) E1.len hlo hx1 fun v' s' K N => q v' dt s' hd N (P.kp K h.lt) (E1.kp K)
theorem nd_lst {r : Nat} {xs : List PV} {ds : List PyData} (h : s.g[r]? = some (.lst xs)) (h1 : lo ≤ r) (h2 : r < hi) (hb : PO.bd 0 (.lst xs) = true) (hd : ∀ (s' : Sg) (k : Nat), xs.mapM (toX s' (k + 3)) = some ds) : Nd lo hi s (.ref r) (.list ds) :=
  .inr ⟨r, _, rfl, h1, h2, h, hb, fun s' r' k e => by
    show toX s' (k + 3 + 1) (.ref r') = _
    unfold toX
    rw [e]
    simp only [hd, Option.map_some]⟩
theorem nd_dic {r : Nat} {kvs : List (Key × PV)} {ds : List PyData} (h : s.g[r]? = some (.dic kvs false)) (h1 : lo ≤ r) (h2 : r < hi) (hb : PO.bd 0 (.dic kvs false) = true) (hd : ∀ (s' : Sg) (k : Nat), (kvs.map (·.2)).mapM (toX s' (k + 3)) = some ds) : Nd lo hi s (.ref r) (.dict ((kvs.map fun p => keyD p.1).zip ds)) :=
  .inr ⟨r, _, rfl, h1, h2, h, hb, fun s' r' k e => by
    show toX s' (k + 3 + 1) (.ref r') = _
    unfold toX
    rw [e]
    simp only [hd, Option.map_some]⟩
def oddD : List PyData := [.none, .bool true, .bool false, .int 0, .int 1, .int (-1), .int 2, .int 30, .str "", .str "a", .str "b", .tuple [], .list [], .dict [], .tuple [.int 0], .tuple [.tuple []], .list [.int 0], .tuple [.str "a"], .str "hands 1",
  .dict [(.str "a", .int 1)], .tuple [.int 0, .int 4], .tuple [.int 1, .int 2], .tuple [.tuple [.int 1, .int 2]], .int 100000000, .list [.str "a"], .tuple [.tuple [.int 0, .int 0, .int 5]], .tuple [.int 0, .none], .str "1", .tuple [.bool true, .int 1]]
theorem nd_s {v : PV} (h1 : v.bd 0 = true) (h2 : ∀ (s' : Sg) (k : Nat), toX s' (k + 4) v = some d) : Nd lo hi s v d := .inl ⟨h1, h2⟩
theorem pow8 : vPow (.int 10) (.int 8) s = .ok (.int 100000000) s := by
  have c1 : cPow 10 8 = true := by unfold cPow; decide +kernel
  unfold vPow
  rw [ev_i2c, if_pos c1]
  rfl
theorem dispA {φ : Phi} {p : Sl} : mDisp [((mC (.str "a")), (mC (.int 1)))] φ p s = .ok (.ref s.g.length) (s.push (.dic [(.inr (Str.ofString "a"), .int 1)] false)) := by
  have h : (s.push (.dic [] false)).g[s.g.length]? = some (.dic [] false) := push_new
  have e : dMerge [] [((.inr (Str.ofString "a") : Key), PV.int 1)] = [(.inr (Str.ofString "a"), .int 1)] := by kernel_rfl
  simp only [mDisp, mPairs, ev_c, bind_ok, h, List.mapM_cons, List.mapM_nil, asKV2, Bi.keyOf, Option.map_some, Option.bind_eq_bind, Option.bind_some, Option.pure_def, List.length_cons, List.length_nil, e]
  rw [if_pos (by decide)]
  congr 1
  simp [Sg.wr, Sg.push, PO.bd, PV.bd]
end
end K00

end
section
set_option linter.all false
set_option autoImplicit false
set_option maxRecDepth 100000
set_option maxHeartbeats 4000000
namespace K00
open PySem L2 Bi SX
section
variable {j n m c lo hi lo' hi' low : Nat} {s s' : Sg} {v x : PV} {d : PyData} {ns : List Nat} {Q : PV → Sg → Prop} {D : List PyData}
theorem in_odd (i : Nat) (h : i < oddD.length) : oddD[i] ∈ oddD := List.getElem_mem h
theorem ex_odd {v : PV} (i : Nat) (hi' : i < 29) {d : PyData} (e : oddD[i]'(by show i < 29; exact hi') = d) (h : Nd lo hi s v d) : ∃ d ∈ oddD, Nd lo hi s v d := ⟨d, by rw [← e]; exact List.getElem_mem _, h⟩
theorem odd_wp (h : PotAt s n c) (hc : c < 1152921504606846976) (q : ∀ v d s', d ∈ oddD → Nd s.g.length s'.g.length s' v d → PotAt s' n (c + 1) → Fx [n] s s' → Q v s') : wpR (Ph rs (j + 3) "_law_odd" [.ref n] s) Q := by
  have hn := h.lt
  refine wp_call r__law_odd m__law_odd 3 (by kernel_rfl) rfl rfl rfl ?_
  rw [show startP 3 [.ref n] = [some (.ref n), none, none] from rfl]
  unfold m__law_odd
  rw [ev_seq, wpS_thn, ev_set, wpS_toS, wpR_gcE]
  simp only [ev_lst, ev_cons, ev_nil, ev_c, ev_un, ev_tup, mDisp0, bind_ok, tupK0, tupK1, tupK2, tupK3, vNeg_int, lstK0, lstK1, wpR_ok]
  have r1 : s.top.top.g.length = s.g.length := rfl
  have r2 : (s.top.top.push (.lst [])).g.length = s.g.length + 1 := by simp
  have r3 : ((s.top.top.push (.lst [])).push (.dic [] false)).g.length = s.g.length + 2 := by simp
  rw [r1, r2, r3, lstK_ok (by simp), wpR_ok]
  have E0 : Fx [] s (((s.top.top.push (.lst [])).push (.dic [] false)).push (.lst [.int 0])) := ((Fx.rt.up.push _).push _).push _
  have a1 : (((s.top.top.push (.lst [])).push (.dic [] false)).push (.lst [.int 0])).g[s.g.length]? = some (.lst []) := by simp
  have a2 : (((s.top.top.push (.lst [])).push (.dic [] false)).push (.lst [.int 0])).g[s.g.length + 1]? = some (.dic [] false) := by simp
  have a3 : (((s.top.top.push (.lst [])).push (.dic [] false)).push (.lst [.int 0])).g[s.g.length + 2]? = some (.lst [.int 0]) := by simp
  have z0 : (((s.top.top.push (.lst [])).push (.dic [] false)).push (.lst [.int 0])).g.length = s.g.length + 3 := by simp
  generalize ((s.top.top.push (.lst [])).push (.dic [] false)).push (.lst [.int 0]) = s0 at E0 a1 a2 a3 z0
  generalize hL1 : [PV.non, PV.bl true, PV.bl false, PV.int 0, PV.int 1, PV.int (-1), PV.int 2, PV.int 30, PV.str (Str.ofString ""), PV.str (Str.ofString "a"), PV.str (Str.ofString "b"), PV.tup [], PV.ref s.g.length, PV.ref (s.g.length + 1), PV.tup [PV.int 0], PV.tup [PV.tup []], PV.ref (s.g.length + 2), PV.tup [PV.str (Str.ofString "a")], PV.str (Str.ofString "hands 1")] = L1
  have l1 : L1.length = 19 := by rw [← hL1]; rfl
  have b1 : PO.bd s.g.length (.lst L1) = false := by rw [← hL1]; simp [PO.bd, PV.bd]
  have n1 : ∀ x ∈ L1, ∃ d ∈ oddD, Nd s.g.length (s.g.length + 3) s0 x d := by
    rw [← hL1]
    simp only [List.forall_mem_cons]
    refine ⟨ex_odd 0 (by decide) rfl (nd_s (by rfl) fun _ _ => rfl), ex_odd 1 (by decide) rfl (nd_s (by rfl) fun _ _ => rfl), ex_odd 2 (by decide) rfl (nd_s (by rfl) fun _ _ => rfl), ex_odd 3 (by decide) rfl (nd_s (by rfl) fun _ _ => rfl), ex_odd 4 (by decide) rfl (nd_s (by rfl) fun _ _ => rfl),
      ex_odd 5 (by decide) rfl (nd_s (by rfl) fun _ _ => rfl), ex_odd 6 (by decide) rfl (nd_s (by rfl) fun _ _ => rfl), ex_odd 7 (by decide) rfl (nd_s (by rfl) fun _ _ => rfl), ex_odd 8 (by decide) rfl (nd_s (by rfl) fun _ _ => rfl), ex_odd 9 (by decide) rfl (nd_s (by rfl) fun _ _ => rfl),
      ex_odd 10 (by decide) rfl (nd_s (by rfl) fun _ _ => rfl), ex_odd 11 (by decide) rfl (nd_s (by rfl) fun _ _ => rfl), ex_odd 12 (by decide) rfl (nd_lst (ds := []) a1 (by omega) (by omega) (by rfl) fun _ _ => rfl), ex_odd 13 (by decide) rfl (nd_dic (ds := []) a2 (by omega) (by omega) (by rfl) fun _ _ => rfl),
      ex_odd 14 (by decide) rfl (nd_s (by rfl) fun _ _ => rfl), ex_odd 15 (by decide) rfl (nd_s (by rfl) fun _ _ => rfl), ex_odd 16 (by decide) rfl (nd_lst (ds := [.int 0]) a3 (by omega) (by omega) (by rfl) fun _ _ => rfl), ex_odd 17 (by decide) rfl (nd_s (by rfl) fun _ _ => rfl), ex_odd 18 (by decide) rfl (nd_s (by rfl) fun _ _ => rfl), by simp⟩
  refine gcv_deep (n := s.g.length) (by omega) (push_new (s := s0)) b1 fun l => ?_
  have E1 : Fx [] s0 ⟨(s0.push (.lst L1)).g, l⟩ := (Fx.refl.push _).low
  have m1 : (⟨(s0.push (.lst L1)).g, l⟩ : Sg).g[s0.g.length]? = some (.lst L1) := push_new (s := s0)
  generalize (⟨(s0.push (.lst L1)).g, l⟩ : Sg) = s1 at E1 m1
  have E01 := E0.trans E1
  have k1 := lt_of_get m1
  simp only [wpS_nx, sSet_S, sSet_0]
  show wpS (mSeq _ _ _ _ _) _
  rw [ev_seq, wpS_thn, ev_set, wpS_toS, wpR_gcE]
  simp only [ev_lst, ev_cons, ev_nil, ev_c, ev_bin, ev_tup, dispA, bind_ok, tupK1, tupK2, tupK3, lstK1, pow8, wpR_ok]
  have t1 : s1.top.g.length = s1.g.length := rfl
  have t2 : (s1.top.push (.dic [(.inr (Str.ofString "a"), .int 1)] false)).g.length = s1.g.length + 1 := by simp
  rw [t1, t2, lstK_ok (by simp), wpR_ok]
  have F0 : Fx [] s1 ((s1.top.push (.dic [(.inr (Str.ofString "a"), .int 1)] false)).push (.lst [.str (Str.ofString "a")])) := (Fx.rt.push _).push _
  have c1 : ((s1.top.push (.dic [(.inr (Str.ofString "a"), .int 1)] false)).push (.lst [.str (Str.ofString "a")])).g[s1.g.length]? = some (.dic [(.inr (Str.ofString "a"), .int 1)] false) := by simp
  have c2 : ((s1.top.push (.dic [(.inr (Str.ofString "a"), .int 1)] false)).push (.lst [.str (Str.ofString "a")])).g[s1.g.length + 1]? = some (.lst [.str (Str.ofString "a")]) := by simp
  have z1 : ((s1.top.push (.dic [(.inr (Str.ofString "a"), .int 1)] false)).push (.lst [.str (Str.ofString "a")])).g.length = s1.g.length + 2 := by simp
  generalize (s1.top.push (.dic [(.inr (Str.ofString "a"), .int 1)] false)).push (.lst [.str (Str.ofString "a")]) = s2 at F0 c1 c2 z1
  generalize hL2 : [PV.ref s1.g.length, PV.tup [.int 0, .int 4], PV.tup [.int 1, .int 2], PV.tup [.tup [.int 1, .int 2]], PV.int 100000000, PV.ref (s1.g.length + 1), PV.tup [.tup [.int 0, .int 0, .int 5]], PV.tup [.int 0, .non], PV.str (Str.ofString "1"), PV.tup [.bl true, .int 1]] = L2
  have l2 : L2.length = 10 := by rw [← hL2]; rfl
  have b2 : PO.bd s1.g.length (.lst L2) = false := by rw [← hL2]; simp [PO.bd, PV.bd]
  have e01 := E01.len
  have n2 : ∀ x ∈ L2, ∃ d ∈ oddD, Nd s.g.length (s1.g.length + 2) s2 x d := by
    rw [← hL2]
    simp only [List.forall_mem_cons]
    refine ⟨ex_odd 19 (by decide) rfl (nd_dic (ds := [.int 1]) c1 (by omega) (by omega) (by rfl) fun _ _ => rfl), ex_odd 20 (by decide) rfl (nd_s (by rfl) fun _ _ => rfl), ex_odd 21 (by decide) rfl (nd_s (by rfl) fun _ _ => rfl), ex_odd 22 (by decide) rfl (nd_s (by rfl) fun _ _ => rfl), ex_odd 23 (by decide) rfl (nd_s (by rfl) fun _ _ => rfl),
      ex_odd 24 (by decide) rfl (nd_lst (ds := [.str "a"]) c2 (by omega) (by omega) (by rfl) fun _ _ => rfl), ex_odd 25 (by decide) rfl (nd_s (by rfl) fun _ _ => rfl), ex_odd 26 (by decide) rfl (nd_s (by rfl) fun _ _ => rfl), ex_odd 27 (by decide) rfl (nd_s (by rfl) fun _ _ => rfl), ex_odd 28 (by decide) rfl (nd_s (by rfl) fun _ _ => rfl), by simp⟩
  refine gcv_deep (n := s1.g.length) (by omega) (push_new (s := s2)) b2 fun l => ?_
  have F1 : Fx [] s2 ⟨(s2.push (.lst L2)).g, l⟩ := (Fx.refl.push _).low
  have m2 : (⟨(s2.push (.lst L2)).g, l⟩ : Sg).g[s2.g.length]? = some (.lst L2) := push_new (s := s2)
  generalize (⟨(s2.push (.lst L2)).g, l⟩ : Sg) = s3 at F1 m2
  have F01 := F0.trans F1
  have m1' := F01.get m1 (by simp)
  have k2 := lt_of_get m2
  simp only [wpS_nx, sSet_S, sSet_0]
  show wpS (mRet _ _ _ _) _
  rw [ev_ret, wpS_toS]
  simp only [ev_call, ev_cons, ev_nil, ev_bin, mVar_S, mVar_0, bind_ok, wpR_bind, wpR_ok, List.append_nil, addL_ok m1' m2 (show L1.length + L2.length < 1000000 by omega)]
  have E03 : Fx [] s s3 := E01.trans F01
  have F3 : Fx [] s3 (s3.push (.lst (L1 ++ L2))) := Fx.refl.push _
  have e03 := E03.len
  refine of_nd (j := j) (lo := s.g.length) (hi := s1.g.length + 2) (D := oddD) (h.fx (E03.trans F3) (by simp)) hc (push_new (s := s3)) (by omega) (by simp; omega) (by simp; omega) (E03.trans F3).len hn (fun x hx => ?_) fun x d s4 hd N P E => ?_
  · rcases List.mem_append.mp hx with hx | hx
    · obtain ⟨d, hd, hN⟩ := n1 x hx
      exact ⟨d, hd, (((hN.fx E1 (by simp)).fx F01 (by simp)).fx F3 (by simp)).mono (Nat.le_refl _) (by omega)⟩
    · obtain ⟨d, hd, hN⟩ := n2 x hx
      exact ⟨d, hd, (hN.fx F1 (by simp)).fx F3 (by simp)⟩
  · simp only [wpS_rt]
    have E4 : Fx [n] s s4 := (E03.trans F3).nil.trans E
    exact gcv_nd (n := s.g.length) E4.len (Nat.le_refl _) N fun v' s' K N => q v' d s' hd N (P.kp K hn) (E4.kp K)
end
end K00

end
section
set_option linter.all false
set_option autoImplicit false
set_option maxRecDepth 100000
set_option maxHeartbeats 4000000
namespace K00
open PySem L2 Bi SX
def exD : List PyData := oddD ++ (oddD.map (fun d => .tuple [d, .int 3]) ++ (oddD.map (fun d => .list [d]) ++ oddD.map fun d => .dict [(.str "a", d)]))
def okD (d : PyData) : Bool := ((d.showable && decide (d.depth ≤ dD)) && decide (d.shown.length ≤ sizeLine)) && SeqAt.shaped (.str d.shown)
theorem exD_ok : exD.all okD = true := by decide +kernel
/-- the drawn value: an odd one, or one within a tuple, a list, a dict -/
def Wd (lo hi : Nat) (s : Sg) (v : PV) (d : PyData) : Prop := ∃ d0 ∈ oddD, (Nd lo hi s v d0 ∧ d = d0) ∨ (∃ x, v = .tup [x, .int 3] ∧ Nd lo hi s x d0 ∧ d = .tuple [d0, .int 3]) ∨
  (∃ r x, v = .ref r ∧ lo ≤ r ∧ r < hi ∧ s.g[r]? = some (.lst [x]) ∧ Nd lo hi s x d0 ∧ d = .list [d0]) ∨ ∃ r x, v = .ref r ∧ lo ≤ r ∧ r < hi ∧ s.g[r]? = some (.dic [(.inr (Str.ofString "a"), x)] false) ∧ Nd lo hi s x d0 ∧ d = .dict [(.str "a", d0)]
section
variable {j n m c lo hi lo' hi' low : Nat} {s s' : Sg} {v x : PV} {d : PyData} {ns : List Nat} {Q : PV → Sg → Prop} {D : List PyData}
theorem Wd.mem (h : Wd lo hi s v d) : d ∈ exD := by
  unfold exD
  obtain ⟨d0, h0, h⟩ := h
  rcases h with ⟨_, rfl⟩ | ⟨x, _, _, rfl⟩ | ⟨r, x, _, _, _, _, _, rfl⟩ | ⟨r, x, _, _, _, _, _, rfl⟩
  · exact List.mem_append_left _ h0
  · exact List.mem_append_right _ (List.mem_append_left _ (List.mem_map_of_mem h0))
  · exact List.mem_append_right _ (List.mem_append_right _ (List.mem_append_left _ (List.mem_map_of_mem h0)))
  · exact List.mem_append_right _ (List.mem_append_right _ (List.mem_append_right _ (List.mem_map_of_mem h0)))
theorem Wd.fx (h : Wd lo hi s v d) (E : Fx ns s s') (hn : ∀ i ∈ ns, i < lo ∨ hi ≤ i) : Wd lo hi s' v d := by
  have at_ : ∀ {r : Nat} {o : PO}, lo ≤ r → r < hi → s.g[r]? = some o → s'.g[r]? = some o := fun {r o} h1 h2 e => E.get e fun hm => by
    rcases hn r hm with z | z <;> omega
  obtain ⟨d0, h0, h⟩ := h
  refine ⟨d0, h0, ?_⟩
  rcases h with ⟨h, rfl⟩ | ⟨x, rfl, h, rfl⟩ | ⟨r, x, rfl, h1, h2, h3, h4, rfl⟩ | ⟨r, x, rfl, h1, h2, h3, h4, rfl⟩
  · exact .inl ⟨h.fx E hn, rfl⟩
  · exact .inr (.inl ⟨x, rfl, h.fx E hn, rfl⟩)
  · exact .inr (.inr (.inl ⟨r, x, rfl, h1, h2, at_ h1 h2 h3, h4.fx E hn, rfl⟩))
  · exact .inr (.inr (.inr ⟨r, x, rfl, h1, h2, at_ h1 h2 h3, h4.fx E hn, rfl⟩))
theorem Wd.mono (h : Wd lo hi s v d) (h1 : lo' ≤ lo) (h2 : hi ≤ hi') : Wd lo' hi' s v d := by
  obtain ⟨d0, h0, h⟩ := h
  refine ⟨d0, h0, ?_⟩
  rcases h with ⟨h, rfl⟩ | ⟨x, rfl, h, rfl⟩ | ⟨r, x, rfl, a1, a2, h3, h4, rfl⟩ | ⟨r, x, rfl, a1, a2, h3, h4, rfl⟩
  · exact .inl ⟨h.mono h1 h2, rfl⟩
  · exact .inr (.inl ⟨x, rfl, h.mono h1 h2, rfl⟩)
  · exact .inr (.inr (.inl ⟨r, x, rfl, by omega, by omega, h3, h4.mono h1 h2, rfl⟩))
  · exact .inr (.inr (.inr ⟨r, x, rfl, by omega, by omega, h3, h4.mono h1 h2, rfl⟩))
theorem Nd.bdh (h : Nd lo hi s v d) (hn : hi ≤ n) : v.bd n = true := by
  rcases h with h | ⟨r, o, rfl, h1, h2, _⟩
  · exact bd_mono (Nat.zero_le _) _ h.1
  · rw [PV.bd]; simp; omega
theorem Wd.bdh (h : Wd lo hi s v d) (hn : hi ≤ n) : v.bd n = true := by
  obtain ⟨d0, h0, h⟩ := h
  rcases h with ⟨h, rfl⟩ | ⟨x, rfl, h, rfl⟩ | ⟨r, x, rfl, a1, a2, h3, h4, rfl⟩ | ⟨r, x, rfl, a1, a2, h3, h4, rfl⟩
  · exact h.bdh hn
  · rw [bd_tup]; simp [h.bdh hn, PV.bd]
  · rw [PV.bd]; simp; omega
  · rw [PV.bd]; simp; omega
theorem Nd.toX (h : Nd lo hi s v d) (k : Nat) : toX s (k + 4) v = some d := by
  rcases h with h | ⟨r, o, rfl, h1, h2, h3, h4, h5⟩
  · exact h.2 s k
  · exact h5 s r k h3
theorem Wd.toX (h : Wd lo hi s v d) (k : Nat) : toX s (k + 5) v = some d := by
  obtain ⟨d0, h0, h⟩ := h
  rcases h with ⟨h, rfl⟩ | ⟨x, rfl, h, rfl⟩ | ⟨r, x, rfl, a1, a2, h3, h4, rfl⟩ | ⟨r, x, rfl, a1, a2, h3, h4, rfl⟩
  · exact h.toX (k + 1)
  · show ([x, .int 3].mapM (Bi.toX s (k + 4))).map PyData.tuple = _
    rw [List.mapM_cons, h.toX k]
    rfl
  · show Bi.toX s (k + 4 + 1) (.ref r) = _
    unfold Bi.toX
    rw [h3]
    simp only [List.mapM_cons, h4.toX k]
    rfl
  · show Bi.toX s (k + 4 + 1) (.ref r) = _
    unfold Bi.toX
    rw [h3]
    simp only [List.map_cons, List.map_nil, List.mapM_cons, h4.toX k]
    rfl
theorem Wd.repr (h : Wd lo hi s v d) : vReprX [v] s = .ok (.str d.shown) s := by
  have hk := List.all_eq_true.mp exD_ok d h.mem
  unfold okD at hk
  rw [Bool.and_eq_true] at hk
  have hx : Bi.toX s dD v = some d := h.toX 55
  simp only [vReprX, hx, hk.1, if_true]
theorem Wd.shp (h : Wd lo hi s v d) : SeqAt.shaped (.str d.shown) = true := by
  have hk := List.all_eq_true.mp exD_ok d h.mem
  unfold okD at hk
  rw [Bool.and_eq_true] at hk
  exact hk.2
theorem eq_str {z : Str} (h : SeqAt.shaped (.str z) = true) : eqP s (.str z) (.str z) = some true := by
  have e : toD s dD (.str z) = some (.str z) := rfl
  have e2 : PyData.eqv (.str z) (.str z) = true := by simp [PyData.eqv]
  simp only [eqP, e, h, Bool.and_self, if_true, e2]
/-- a new cell that names old ones -/
theorem gcv_newO {o : PO} (hl : n ≤ s.g.length) (hm : n ≤ m) (ho : s.g[m]? = some o) (hb : o.bd n = true) (q : ∀ m' s', Kp n s s' → n ≤ m' → s'.g[m']? = some o → Q (.ref m') s') : wpR (gcV n low (.ref m) s) Q := by
  have h0 : PV.bd n (.ref m) = false := by rw [PV.bd]; simp; omega
  unfold gcV
  split
  · rw [if_neg (by simp [h0])]
    simp only [ho]
    rw [if_pos hb]
    refine q n _ (kp_move hl) (Nat.le_refl _) ?_
    show (s.g.take n ++ [o])[n]? = _
    have hl2 : (s.g.take n).length = n := by rw [List.length_take]; omega
    rw [List.getElem?_append_right (by omega)]
    simp [hl2]
  · exact q m _ (kp_low hl) hm ho
theorem Nd.cases_ (h : Nd lo hi s v d) : v.bd 0 = true ∨ v.bd lo = false := by
  rcases h with h | ⟨r, o, rfl, h1, _⟩
  · exact .inl h.1
  · exact .inr (by rw [PV.bd]; simp; omega)
theorem gcv_wd (hl : n ≤ s.g.length) (h : Wd n hi s v d) (q : ∀ v' s', Kp n s s' → Wd n s'.g.length s' v' d → Q v' s') : wpR (gcV n low v s) Q := by
  obtain ⟨d0, h0, h⟩ := h
  have lowN : ∀ {x : PV} {l : Nat}, Nd n hi s x d0 → Nd n (⟨s.g, l⟩ : Sg).g.length ⟨s.g, l⟩ x d0 := fun {x l} h => Nd.lt (s := ⟨s.g, l⟩) (h.fx (ns := []) ((Fx.refl (s := s)).low (l := l)) (by simp))
  rcases h with ⟨h, rfl⟩ | ⟨x, rfl, h, rfl⟩ | ⟨r, x, rfl, a1, a2, h3, h4, rfl⟩ | ⟨r, x, rfl, a1, a2, h3, h4, rfl⟩
  · exact gcv_nd hl (Nat.le_refl _) h fun v' s' K N => q v' s' K ⟨_, h0, .inl ⟨N, rfl⟩⟩
  · rcases h.cases_ with hx | hx
    · refine gcv_flat hl (by rw [bd_tup]; simp [hx, PV.bd]) fun s' K => q _ s' K ⟨d0, h0, .inr (.inl ⟨x, rfl, ?_, rfl⟩)⟩
      rcases h with h | ⟨r, o, rfl, _⟩
      · exact .inl h
      · rw [PV.bd] at hx; simp at hx
    · exact gcv_tup (by rw [bd_tup]; simp [hx]) fun l => q _ _ (kp_low hl) ⟨d0, h0, .inr (.inl ⟨x, rfl, lowN h, rfl⟩)⟩
  · rcases h4.cases_ with hx | hx
    · refine gcv_new hl a1 h3 (by simp [PO.bd, hx]) fun m' s' K hm e => q _ s' K ⟨d0, h0, .inr (.inr (.inl ⟨m', x, rfl, hm, lt_of_get e, e, ?_, rfl⟩))⟩
      rcases h4 with h | ⟨r, o, rfl, _⟩
      · exact .inl h
      · rw [PV.bd] at hx; simp at hx
    · exact gcv_deep a1 h3 (by simp [PO.bd, hx]) fun l => q _ _ (kp_low hl) ⟨d0, h0, .inr (.inr (.inl ⟨r, x, rfl, a1, lt_of_get h3, h3, lowN h4, rfl⟩))⟩
  · rcases h4.cases_ with hx | hx
    · refine gcv_new hl a1 h3 (by simp [PO.bd, hx]) fun m' s' K hm e => q _ s' K ⟨d0, h0, .inr (.inr (.inr ⟨m', x, rfl, hm, lt_of_get e, e, ?_, rfl⟩))⟩
      rcases h4 with h | ⟨r, o, rfl, _⟩
      · exact .inl h
      · rw [PV.bd] at hx; simp at hx
    · exact gcv_deep a1 h3 (by simp [PO.bd, hx]) fun l => q _ _ (kp_low hl) ⟨d0, h0, .inr (.inr (.inr ⟨r, x, rfl, a1, lt_of_get h3, h3, lowN h4, rfl⟩))⟩
theorem of_wd {xs : List PV} (h : PotAt s n c) (hc : c < 1152921504606846976) (hm : s.g[m]? = some (.lst xs)) (hmn : m ≠ n) (h0 : 0 < xs.length) (h1 : xs.length < 1000000) (hlo : hi ≤ s.g.length) (hn : n < lo) (hb : ∀ x ∈ xs, ∃ d, Wd lo hi s x d)
    (q : ∀ x d s', Wd lo hi s' x d → PotAt s' n (c + 1) → Fx [n] s s' → Q x s') : wpR (Ph rs (j + 2) "_law_of" [.ref n, .ref m] s) Q := by
  refine wp_call r__law_of m__law_of 2 (by kernel_rfl) rfl rfl rfl ?_
  simp [m__law_of, startP, vLen_lst (show s.top.g[m]? = _ from hm)]
  refine take_wp h.top hc ⟨by omega, by omega⟩ fun d s1 d0 d1 P E => ?_
  have hm1 := E.get (show s.top.g[m]? = _ from hm) (by simpa using hmn)
  obtain ⟨x, ex, hx⟩ := atI_in (xs := xs) d0 d1
  simp [vIx, hm1, ex, opt]
  have E1 : Fx [n] s s1 := E.top
  obtain ⟨dt, hW⟩ := hb x hx
  exact gcv_old E1.len (hW.bdh hlo) fun s' K => q x dt s' (hW.fx (E1.kp K) (by simp; omega)) (P.kp K h.lt) (E1.kp K)
end
end K00

end
section
set_option linter.all false
set_option autoImplicit false
set_option maxRecDepth 100000
set_option maxHeartbeats 4000000
namespace K00
open PySem L2 Bi SX
def nm28 : List Str := ["BadBook", "NoJob", "BadHour", "BadNumber", "BadName", "Taken", "Full", "Alone", "BadPlan", "NotFitting", "BadRow", "OtherBook", "BadHolds", "BadCaps", "Tied", "NoPlan", "BadPlace", "ManyHands", "BadOffers", "Contrary", "Begun", "Early", "NotLater", "NothingToUndo", "NothingToRedo", "NoTrial", "BadJournal", "BadLine"]
section
variable {j n m c r lo hi : Nat} {s s' : Sg} {v x : PV} {d : PyData} {ns : List Nat} {Q : PV → Sg → Prop} {QS : PQ} {xs : List PV}
theorem ev_exc {x : Str} {ml : ML} {φ : Phi} {p : Sl} : mExc x ml φ p s = (ml φ p s).bind fun vs s => match vs with
  | [v] => .ok (.exc x v) s
  | _ => .bad := rfl
theorem ext3 {a b c : Str} (h : s.g[r]? = some (.lst xs)) (hl : xs.length < 100) (q : ∀ s', s'.g[r]? = some (.lst (xs ++ [.exc a v, .exc b v, .exc c v])) → Fx [r] s s' → QS.nx [some v, some (.ref r)] s') :
    wpS (gcS (mExp (mBM kdLst vExtend (mVar 1) (mCons (mLst (mCons (mExc a (mCons (mVar 0) mNil)) (mCons (mExc b (mCons (mVar 0) mNil)) (mCons (mExc c (mCons (mVar 0) mNil)) mNil)))) mNil))) (Ph rs j) [some v, some (.ref r)] s) QS := by
  refine wpS_gcS ?_
  have h' : s.top.g[r]? = some (.lst xs) := h
  have hr := lt_of_get h
  simp only [ev_exp, ev_bm, mVar_S, mVar_0, bind_ok, kdLst_ok h', if_true, ev_cons, ev_nil, ev_lst, ev_exc, lstK3, wpS_toS]
  rw [extend_ok (push_old h') (push_new (s := s.top)) (by simp; omega), wpR_ok]
  simp only [wpS_nx]
  have E : Fx [r] s ((s.top.push (.lst [.exc a v, .exc b v, .exc c v])).wr r (.lst (xs ++ [.exc a v, .exc b v, .exc c v]))) := ((Fx.rt (ns := [r])).push _).wr _ (fun _ => by simp)
  exact ⟨E.len, fun s' K _ => q s' (K.get (wr_same (push_old h')) hr) (E.kp K)⟩
theorem ext1 {a : Str} (h : s.g[r]? = some (.lst xs)) (hl : xs.length < 100) (q : ∀ s', s'.g[r]? = some (.lst (xs ++ [.exc a v])) → Fx [r] s s' → QS.nx [some v, some (.ref r)] s') :
    wpS (gcS (mExp (mBM kdLst vExtend (mVar 1) (mCons (mLst (mCons (mExc a (mCons (mVar 0) mNil)) mNil)) mNil))) (Ph rs j) [some v, some (.ref r)] s) QS := by
  refine wpS_gcS ?_
  have h' : s.top.g[r]? = some (.lst xs) := h
  have hr := lt_of_get h
  simp only [ev_exp, ev_bm, mVar_S, mVar_0, bind_ok, kdLst_ok h', if_true, ev_cons, ev_nil, ev_lst, ev_exc, lstK1, wpS_toS]
  rw [extend_ok (push_old h') (push_new (s := s.top)) (by simp; omega), wpR_ok]
  simp only [wpS_nx]
  have E : Fx [r] s ((s.top.push (.lst [.exc a v])).wr r (.lst (xs ++ [.exc a v]))) := ((Fx.rt (ns := [r])).push _).wr _ (fun _ => by simp)
  exact ⟨E.len, fun s' K _ => q s' (K.get (wr_same (push_old h')) hr) (E.kp K)⟩
theorem made_wp (hv : v.bd s.g.length = true) (q : ∀ m s', Fx [] s s' → s.g.length ≤ m → s'.g[m]? = some (.lst (nm28.map fun x => .exc x v)) → Q (.ref m) s') : wpR (Ph rs (j + 1) "_law_made" [v] s) Q := by
  refine wp_call r__law_made m__law_made 2 (by kernel_rfl) rfl rfl rfl ?_
  rw [show startP 2 [v] = [some v, none] from rfl]
  unfold m__law_made
  rw [ev_seq, wpS_thn, ev_set, wpS_toS]
  simp only [ev_lst, ev_cons, ev_nil, ev_exc, mVar_S, mVar_0, bind_ok, lstK3, wpR_ok, wpS_nx, sSet_S, sSet_0]
  have hr : s.top.g.length = s.g.length := rfl
  rw [hr]
  have E1 : Fx [] s (s.top.push (.lst [.exc "BadBook" v, .exc "NoJob" v, .exc "BadHour" v])) := Fx.rt.push _
  have h1 : (s.top.push (.lst [.exc "BadBook" v, .exc "NoJob" v, .exc "BadHour" v])).g[s.g.length]? = some (.lst [.exc "BadBook" v, .exc "NoJob" v, .exc "BadHour" v]) := push_new (s := s.top)
  generalize s.top.push (.lst [.exc "BadBook" v, .exc "NoJob" v, .exc "BadHour" v]) = s1 at E1 h1
  show wpS (mSeq _ _ _ _ _) _
  rw [ev_seq, wpS_thn]
  refine ext3 h1 (by simp) fun s2 h2 E2 => ?_
  show wpS (mSeq _ _ _ _ _) _
  rw [ev_seq, wpS_thn]
  refine ext3 h2 (by simp) fun s3 h3 E3 => ?_
  show wpS (mSeq _ _ _ _ _) _
  rw [ev_seq, wpS_thn]
  refine ext3 h3 (by simp) fun s4 h4 E4 => ?_
  show wpS (mSeq _ _ _ _ _) _
  rw [ev_seq, wpS_thn]
  refine ext3 h4 (by simp) fun s5 h5 E5 => ?_
  show wpS (mSeq _ _ _ _ _) _
  rw [ev_seq, wpS_thn]
  refine ext3 h5 (by simp) fun s6 h6 E6 => ?_
  show wpS (mSeq _ _ _ _ _) _
  rw [ev_seq, wpS_thn]
  refine ext3 h6 (by simp) fun s7 h7 E7 => ?_
  show wpS (mSeq _ _ _ _ _) _
  rw [ev_seq, wpS_thn]
  refine ext3 h7 (by simp) fun s8 h8 E8 => ?_
  show wpS (mSeq _ _ _ _ _) _
  rw [ev_seq, wpS_thn]
  refine ext3 h8 (by simp) fun s9 h9 E9 => ?_
  show wpS (mSeq _ _ _ _ _) _
  rw [ev_seq, wpS_thn]
  refine ext1 h9 (by simp) fun s10 h10 E10 => ?_
  simp only [ev_ret, wpS_toS, mVar_S, mVar_0, wpR_ok, wpS_rt]
  have E110 : Fx [s.g.length] s1 s10 := (((((((E2.trans E3).trans E4).trans E5).trans E6).trans E7).trans E8).trans E9).trans E10
  have E0 : Fx [] s s10 := E1.trans' E110 fun i hi hlt => by simp at hi; omega
  refine gcv_newO (n := s.g.length) E0.len (Nat.le_refl _) h10 ?_ fun m' s' K hm e => q m' s' (E0.kp K) hm ?_
  · simp [PO.bd, PV.bd, hv]
  · rw [e]
    rfl
theorem isX_ok {C D : Str} {anc a2 : List Str} (h1 : tb.exc C = some anc) (h2 : tb.exc D = some a2) : vIsX tb.exc [.exc C v, .glob D] s = .ok (.bl (anc.contains D)) s := by
  simp only [vIsX, h1, h2]
theorem isV_ok {C : Str} {anc : List Str} (h1 : tb.exc C = some anc) : vIsX tb.exc [.exc C v, .ty "ValueError"] s = .ok (.bl true) s := by
  simp only [vIsX, h1, if_true]
theorem xv_ok {C : Str} {anc : List Str} (h1 : tb.exc C = some anc) : vXv tb.exc (.exc C v) s = .ok v s := by
  simp only [vXv, h1, Option.isSome_some, if_true]
theorem exc28 : ∀ x ∈ nm28, tb.exc x = some [x, "BideError"] := by
  have h : (nm28.all fun x => decide (tb.exc x = some [x, "BideError"])) = true := by decide +kernel
  intro x hx
  exact of_decide_eq_true (List.all_eq_true.mp h x hx)
theorem excB : tb.exc "BideError" = (some ["BideError"] : Option (List Str)) := by decide +kernel
theorem mk3 {C a b c : Str} {anc : List Str} (hC : tb.exc C = some anc) (ha : a ∈ nm28) (hb : b ∈ nm28) (hc : c ∈ nm28) (h : s.g[r]? = some (.lst xs)) (hl : xs.length < 100) (q : ∀ s', s'.g[r]? = some (.lst (xs ++ [.bl (anc.contains a), .bl (anc.contains b), .bl (anc.contains c)])) → Fx [r] s s' → QS.nx [some (.exc C v), some (.ref r)] s') :
    wpS (gcS (mExp (mBM kdLst vExtend (mVar 1) (mCons (mLst (mCons (mB (vIsX tb.exc) (mCons (mVar 0) (mCons (mC (.glob a)) mNil))) (mCons (mB (vIsX tb.exc) (mCons (mVar 0) (mCons (mC (.glob b)) mNil))) (mCons (mB (vIsX tb.exc) (mCons (mVar 0) (mCons (mC (.glob c)) mNil))) mNil)))) mNil))) (Ph rs j) [some (.exc C v), some (.ref r)] s) QS := by
  refine wpS_gcS ?_
  have h' : s.top.g[r]? = some (.lst xs) := h
  have hr := lt_of_get h
  simp only [ev_exp, ev_bm, mVar_S, mVar_0, bind_ok, kdLst_ok h', if_true, ev_cons, ev_nil, ev_lst, ev_b, ev_c, isX_ok hC (exc28 _ ha), isX_ok hC (exc28 _ hb), isX_ok hC (exc28 _ hc), lstK3, wpS_toS]
  rw [extend_ok (push_old h') (push_new (s := s.top)) (by simp; omega), wpR_ok]
  simp only [wpS_nx]
  have E : Fx [r] s ((s.top.push (.lst [.bl (anc.contains a), .bl (anc.contains b), .bl (anc.contains c)])).wr r (.lst (xs ++ [.bl (anc.contains a), .bl (anc.contains b), .bl (anc.contains c)]))) := ((Fx.rt (ns := [r])).push _).wr _ (fun _ => by simp)
  exact ⟨E.len, fun s' K _ => q s' (K.get (wr_same (push_old h')) hr) (E.kp K)⟩
theorem mk1 {C a : Str} {anc : List Str} (hC : tb.exc C = some anc) (ha : a ∈ nm28) (h : s.g[r]? = some (.lst xs)) (hl : xs.length < 100) (q : ∀ s', s'.g[r]? = some (.lst (xs ++ [.bl (anc.contains a)])) → Fx [r] s s' → QS.nx [some (.exc C v), some (.ref r)] s') :
    wpS (gcS (mExp (mBM kdLst vExtend (mVar 1) (mCons (mLst (mCons (mB (vIsX tb.exc) (mCons (mVar 0) (mCons (mC (.glob a)) mNil))) mNil)) mNil))) (Ph rs j) [some (.exc C v), some (.ref r)] s) QS := by
  refine wpS_gcS ?_
  have h' : s.top.g[r]? = some (.lst xs) := h
  have hr := lt_of_get h
  simp only [ev_exp, ev_bm, mVar_S, mVar_0, bind_ok, kdLst_ok h', if_true, ev_cons, ev_nil, ev_lst, ev_b, ev_c, isX_ok hC (exc28 _ ha), lstK1, wpS_toS]
  rw [extend_ok (push_old h') (push_new (s := s.top)) (by simp; omega), wpR_ok]
  simp only [wpS_nx]
  have E : Fx [r] s ((s.top.push (.lst [.bl (anc.contains a)])).wr r (.lst (xs ++ [.bl (anc.contains a)]))) := ((Fx.rt (ns := [r])).push _).wr _ (fun _ => by simp)
  exact ⟨E.len, fun s' K _ => q s' (K.get (wr_same (push_old h')) hr) (E.kp K)⟩
theorem in28 (i : Nat) (h : i < 28) {x : Str} (e : nm28[i]'(by show i < 28; exact h) = x) : x ∈ nm28 := by rw [← e]; exact List.getElem_mem _
theorem marks_wp {C : Str} {anc : List Str} (hC : tb.exc C = some anc) (q : ∀ m s', Fx [] s s' → s.g.length ≤ m → s'.g[m]? = some (.lst ((nm28.map fun x => anc.contains x).map .bl)) → Q (.ref m) s') : wpR (Ph rs (j + 1) "_law_marks" [.exc C v] s) Q := by
  refine wp_call r__law_marks m__law_marks 2 (by kernel_rfl) rfl rfl rfl ?_
  rw [show startP 2 [.exc C v] = [some (.exc C v), none] from rfl]
  unfold m__law_marks
  rw [ev_seq, wpS_thn, ev_set, wpS_toS]
  simp only [ev_lst, ev_cons, ev_nil, ev_b, ev_c, mVar_S, mVar_0, bind_ok, isX_ok hC (exc28 _ (in28 (x := "BadBook") 0 (by decide) rfl)), isX_ok hC (exc28 _ (in28 (x := "NoJob") 1 (by decide) rfl)), isX_ok hC (exc28 _ (in28 (x := "BadHour") 2 (by decide) rfl)), lstK3, wpR_ok, wpS_nx, sSet_S, sSet_0]
  have hr : s.top.g.length = s.g.length := rfl
  rw [hr]
  have E1 : Fx [] s (s.top.push (.lst [.bl (anc.contains "BadBook"), .bl (anc.contains "NoJob"), .bl (anc.contains "BadHour")])) := Fx.rt.push _
  have h1 : (s.top.push (.lst [.bl (anc.contains "BadBook"), .bl (anc.contains "NoJob"), .bl (anc.contains "BadHour")])).g[s.g.length]? = some (.lst [.bl (anc.contains "BadBook"), .bl (anc.contains "NoJob"), .bl (anc.contains "BadHour")]) := push_new (s := s.top)
  generalize s.top.push (.lst [.bl (anc.contains "BadBook"), .bl (anc.contains "NoJob"), .bl (anc.contains "BadHour")]) = s1 at E1 h1
  show wpS (mSeq _ _ _ _ _) _
  rw [ev_seq, wpS_thn]
  refine mk3 hC (in28 (x := "BadNumber") 3 (by decide) rfl) (in28 (x := "BadName") 4 (by decide) rfl) (in28 (x := "Taken") 5 (by decide) rfl) h1 (by simp) fun s2 h2 E2 => ?_
  show wpS (mSeq _ _ _ _ _) _
  rw [ev_seq, wpS_thn]
  refine mk3 hC (in28 (x := "Full") 6 (by decide) rfl) (in28 (x := "Alone") 7 (by decide) rfl) (in28 (x := "BadPlan") 8 (by decide) rfl) h2 (by simp) fun s3 h3 E3 => ?_
  show wpS (mSeq _ _ _ _ _) _
  rw [ev_seq, wpS_thn]
  refine mk3 hC (in28 (x := "NotFitting") 9 (by decide) rfl) (in28 (x := "BadRow") 10 (by decide) rfl) (in28 (x := "OtherBook") 11 (by decide) rfl) h3 (by simp) fun s4 h4 E4 => ?_
  show wpS (mSeq _ _ _ _ _) _
  rw [ev_seq, wpS_thn]
  refine mk3 hC (in28 (x := "BadHolds") 12 (by decide) rfl) (in28 (x := "BadCaps") 13 (by decide) rfl) (in28 (x := "Tied") 14 (by decide) rfl) h4 (by simp) fun s5 h5 E5 => ?_
  show wpS (mSeq _ _ _ _ _) _
  rw [ev_seq, wpS_thn]
  refine mk3 hC (in28 (x := "NoPlan") 15 (by decide) rfl) (in28 (x := "BadPlace") 16 (by decide) rfl) (in28 (x := "ManyHands") 17 (by decide) rfl) h5 (by simp) fun s6 h6 E6 => ?_
  show wpS (mSeq _ _ _ _ _) _
  rw [ev_seq, wpS_thn]
  refine mk3 hC (in28 (x := "BadOffers") 18 (by decide) rfl) (in28 (x := "Contrary") 19 (by decide) rfl) (in28 (x := "Begun") 20 (by decide) rfl) h6 (by simp) fun s7 h7 E7 => ?_
  show wpS (mSeq _ _ _ _ _) _
  rw [ev_seq, wpS_thn]
  refine mk3 hC (in28 (x := "Early") 21 (by decide) rfl) (in28 (x := "NotLater") 22 (by decide) rfl) (in28 (x := "NothingToUndo") 23 (by decide) rfl) h7 (by simp) fun s8 h8 E8 => ?_
  show wpS (mSeq _ _ _ _ _) _
  rw [ev_seq, wpS_thn]
  refine mk3 hC (in28 (x := "NothingToRedo") 24 (by decide) rfl) (in28 (x := "NoTrial") 25 (by decide) rfl) (in28 (x := "BadJournal") 26 (by decide) rfl) h8 (by simp) fun s9 h9 E9 => ?_
  show wpS (mSeq _ _ _ _ _) _
  rw [ev_seq, wpS_thn]
  refine mk1 hC (in28 (x := "BadLine") 27 (by decide) rfl) h9 (by simp) fun s10 h10 E10 => ?_
  simp only [ev_ret, wpS_toS, mVar_S, mVar_0, wpR_ok, wpS_rt]
  have E110 : Fx [s.g.length] s1 s10 := (((((((E2.trans E3).trans E4).trans E5).trans E6).trans E7).trans E8).trans E9).trans E10
  have E0 : Fx [] s s10 := E1.trans' E110 fun i hi hlt => by simp at hi; omega
  refine gcv_new (n := s.g.length) E0.len (Nat.le_refl _) h10 ?_ fun m' s' K hm e => q m' s' (E0.kp K) hm ?_
  · simp [PO.bd, PV.bd]
  · rw [e]
    rfl
theorem eqvAll_b : ∀ xs ys : List Bool, PyData.eqvAll (xs.map PyData.bool) (ys.map PyData.bool) = decide (xs = ys)
  | [], [] => by simp [PyData.eqvAll]
  | [], y :: ys => by simp [PyData.eqvAll]
  | x :: xs, [] => by simp [PyData.eqvAll]
  | x :: xs, y :: ys => by
    simp only [List.map_cons, PyData.eqvAll, eqvAll_b xs ys]
    cases x <;> cases y <;> simp [PyData.eqv]
theorem ne_bls {a b : Nat} {xs : List Bool} (ha : s.g[a]? = some (.lst (xs.map .bl))) (hb : s.g[b]? = some (.lst (xs.map .bl))) : vNe (.ref a) (.ref b) s = .ok (.bl false) s := by
  have e1 : ∀ r : Nat, s.g[r]? = some (.lst (xs.map .bl)) → toD s dD (.ref r) = some (.list (xs.map .bool)) := fun r h => by
    show toD s (59 + 1) (.ref r) = _
    rw [toD_lst h, mapM_toD (dat := PyData.bool) (fun x => rfl)]
    rfl
  have e3 : SeqAt.shaped (.list (xs.map PyData.bool)) = true := shaped_list (fun d hd => by obtain ⟨i, _, rfl⟩ := List.mem_map.mp hd; simp [PyData.canLay0]) (fun d hd => by obtain ⟨i, _, rfl⟩ := List.mem_map.mp hd; simp [PyData.depth])
  have e5 : PyData.eqv (.list (xs.map PyData.bool)) (.list (xs.map PyData.bool)) = true := by simp [PyData.eqv, eqvAll_b]
  simp only [vNe, eqP, e1 a ha, e1 b hb, e3, e5, Bool.and_self, if_true, Bool.not_true]
end
end K00

end
section
set_option linter.all false
set_option autoImplicit false
set_option maxRecDepth 100000
set_option maxHeartbeats 4000000
namespace K00
open PySem L2 Bi SX
section
variable {j n m c r lo hi : Nat} {s s' : Sg} {v x : PV} {d : PyData} {ns : List Nat} {Q : PV → Sg → Prop} {QS : PQ} {xs : List PV}
theorem enumL_ok {n : Nat} {xs : List PV} (h : s.g[n]? = some (.lst xs)) : vEnum1 [.ref n] s = .ok ⟨enumP 0 xs, [(n, .lst xs)], none⟩ s := by
  simp [vEnum1, vEnum, seqOf, lstOf, srcOf, h]
noncomputable def st1 : MS := (mSet 1 (gcE (mCall "_law_of" [] (mCons (mVar 0) (mCons (mLst (mCons (mCall "_law_odd" [] (mCons (mVar 0) mNil)) (mCons (mTup (mCons (mCall "_law_odd" [] (mCons (mVar 0) mNil)) (mCons (mC (.int 3)) mNil))) (mCons (mLst (mCons (mCall "_law_odd" [] (mCons (mVar 0) mNil)) mNil)) (mCons (mDisp [((mC (.str "a")), (mCall "_law_odd" [] (mCons (mVar 0) mNil)))]) mNil))))) mNil)))))
theorem drawn {o2 o3 o4 o5 o6 : Option PV} (h : PotAt s n c) (hc : c < 1000000000000) (q : ∀ v d s', Wd s.g.length s'.g.length s' v d → PotAt s' n (c + 5) → Fx [n] s s' → QS.nx [some (.ref n), some v, o2, o3, o4, o5, o6] s') : wpS (st1 (Ph rs (j + 4)) [some (.ref n), none, o2, o3, o4, o5, o6] s) QS := by
  have hn := h.lt
  unfold st1
  rw [ev_set, wpS_toS, wpR_gcE]
  simp only [ev_call, ev_cons, ev_nil, ev_lst, mVar_0, bind_ok, wpR_bind, wpR_ok, List.append_nil]
  refine odd_wp (j := j + 1) h.top (by omega) fun x1 d1 s1 hd1 N1 P1 E1 => ?_
  simp only [ev_tup, ev_call, ev_cons, ev_nil, ev_c, mVar_0, bind_ok, wpR_bind, wpR_ok, List.append_nil]
  refine odd_wp (j := j + 1) P1 (by omega) fun x2 d2 s2 hd2 N2 P2 E2 => ?_
  simp only [bind_ok, tupK2, wpR_ok]
  refine odd_wp (j := j + 1) P2 (by omega) fun x3 d3 s3 hd3 N3 P3 E3 => ?_
  simp only [bind_ok, lstK1, wpR_ok, mDisp, mPairs, ev_c, ev_call, ev_cons, ev_nil, mVar_0, wpR_bind, List.append_nil]
  have hst : s.top.g.length = s.g.length := rfl
  have l1 := E1.len
  have l2 := E2.len
  have l3 := E3.len
  have F3 : Fx [] s3 ((s3.push (.lst [x3])).push (.dic [] false)) := (Fx.refl.push _).push _
  have P3' := P3.fx F3 (by simp)
  have a3 : ((s3.push (.lst [x3])).push (.dic [] false)).g[s3.g.length]? = some (.lst [x3]) := by simp
  have b3 : ((s3.push (.lst [x3])).push (.dic [] false)).g[s3.g.length + 1]? = some (.dic [] false) := by simp
  have z3 : ((s3.push (.lst [x3])).push (.dic [] false)).g.length = s3.g.length + 2 := by simp
  have w3 : (s3.push (.lst [x3])).g.length = s3.g.length + 1 := by simp
  rw [w3]
  generalize (s3.push (.lst [x3])).push (.dic [] false) = s3' at F3 P3' a3 b3 z3
  refine odd_wp (j := j + 1) P3' (by omega) fun x4 d4 s4 hd4 N4 P4 E4 => ?_
  have a4 := E4.get a3 (by simp; omega)
  have b4 := E4.get b3 (by simp; omega)
  have e4 : dMerge [] [((.inr (Str.ofString "a") : Key), x4)] = [(.inr (Str.ofString "a"), x4)] := by simp [dMerge, dPut]
  simp only [bind_ok, b4, List.mapM_cons, List.mapM_nil, asKV2, Bi.keyOf, Option.map_some, Option.bind_eq_bind, Option.bind_some, Option.pure_def, List.length_cons, List.length_nil, e4]
  rw [if_pos (by decide)]
  simp only [bind_ok, lstK4, wpR_ok]
  have l4 := E4.len
  have F4 : Fx [s3.g.length + 1] s4 (s4.wr (s3.g.length + 1) (.dic [(.inr (Str.ofString "a"), x4)] false)) := Fx.refl.wr _ fun _ => by simp
  have b5 := wr_same (o := .dic [(.inr (Str.ofString "a"), x4)] false) b4
  have a5 := F4.get a4 (by simp)
  have P5 : PotAt (s4.wr (s3.g.length + 1) (.dic [(.inr (Str.ofString "a"), x4)] false)) n (c + 1 + 1 + 1 + 1) := P4.wr (by omega) _
  have M1 : Nd s.g.length s1.g.length (s4.wr (s3.g.length + 1) (.dic [(.inr (Str.ofString "a"), x4)] false)) x1 d1 := ((((N1.fx E2 (by simp; omega)).fx E3 (by simp; omega)).fx F3 (by simp)).fx E4 (by simp; omega)).fx F4 (by simp; omega)
  have M2 : Nd s1.g.length s2.g.length (s4.wr (s3.g.length + 1) (.dic [(.inr (Str.ofString "a"), x4)] false)) x2 d2 := (((N2.fx E3 (by simp; omega)).fx F3 (by simp)).fx E4 (by simp; omega)).fx F4 (by simp; omega)
  have M3 : Nd s2.g.length s3.g.length (s4.wr (s3.g.length + 1) (.dic [(.inr (Str.ofString "a"), x4)] false)) x3 d3 := ((N3.fx F3 (by simp)).fx E4 (by first | (simp; done) | (simp; omega))).fx F4 (by first | (simp; done) | (simp; omega))
  have M4 : Nd s3'.g.length s4.g.length (s4.wr (s3.g.length + 1) (.dic [(.inr (Str.ofString "a"), x4)] false)) x4 d4 := N4.fx F4 (by simp; omega)
  have E05 : Fx [n] s (s4.wr (s3.g.length + 1) (.dic [(.inr (Str.ofString "a"), x4)] false)) := (((((E1.top.trans E2).trans E3).trans F3.nil).trans E4)).trans' F4 fun i hi hlt => by simp at hi ⊢; omega
  have z5 : (s4.wr (s3.g.length + 1) (.dic [(.inr (Str.ofString "a"), x4)] false)).g.length = s4.g.length := by simp
  generalize s4.wr (s3.g.length + 1) (.dic [(.inr (Str.ofString "a"), x4)] false) = s5 at F4 a5 b5 P5 M1 M2 M3 M4 E05 z5
  have F5 : Fx [] s5 (s5.push (.lst [x1, .tup [x2, .int 3], .ref s3.g.length, .ref (s3.g.length + 1)])) := Fx.refl.push _
  refine of_wd (j := j + 2) (lo := s.g.length) (hi := s5.g.length) (P5.fx F5 (by simp)) (by omega) (push_new (s := s5)) (by omega) (by simp) (by simp) F5.len hn ?_ fun v d s6 W6 P6 E6 => ?_
  · simp only [List.forall_mem_cons]
    refine ⟨⟨_, d1, hd1, .inl ⟨(M1.fx F5 (by simp)).mono (Nat.le_refl _) (by omega), rfl⟩⟩, ⟨_, d2, hd2, .inr (.inl ⟨x2, rfl, (M2.fx F5 (by simp)).mono (by omega) (by omega), rfl⟩)⟩,
      ⟨_, d3, hd3, .inr (.inr (.inl ⟨_, x3, rfl, by omega, by omega, F5.get a5 (by simp), (M3.fx F5 (by simp)).mono (by omega) (by omega), rfl⟩))⟩,
      ⟨_, d4, hd4, .inr (.inr (.inr ⟨_, x4, rfl, by omega, by omega, F5.get b5 (by simp), (M4.fx F5 (by simp)).mono (by omega) (by omega), rfl⟩))⟩, by simp⟩
  · have E06 : Fx [n] s s6 := (E05.trans F5.nil).trans E6
    refine gcv_wd (n := s.g.length) E06.len W6 fun v' s' K N => ?_
    simp only [wpS_nx, sSet_S, sSet_0]
    exact q v' d s' N ((P6.kp K hn).mono (by omega)) (E06.kp K)
theorem ne_same {z : Str} (h : SeqAt.shaped (.str z) = true) : vNe (.str z) (.str z) s = .ok (.bl false) s := by simp only [vNe, eq_str h, Bool.not_true]
theorem eq_same {z : Str} (h : SeqAt.shaped (.str z) = true) : vEq (.str z) (.str z) s = .ok (.bl true) s := by simp only [vEq, eq_str h]
theorem marks28 : ∀ k : Fin 28, (nm28.map fun x => ([nm28[k.val]'(by show k.val < 28; exact k.isLt), "BideError"] : List Str).contains x) = (List.range 28).map fun (i : Nat) => decide (((k.val : Nat) : Int) = 0 + (i : Int)) := by decide +kernel
theorem marks0 : (nm28.map fun x => (["BideError"] : List Str).contains x).any id = false := by decide +kernel
def RwI (s : Sg) (n a : Nat) (v : PV) (o5 o6 : Option PV) (ys : List PV) (sl : Sl) (s1 : Sg) : Prop :=
  ∃ (o3 o4 : Option PV) (k : Nat), sl = [some (.ref n), some v, some (.ref a), o3, o4, o5, o6] ∧ k ≤ 28 ∧ ys = enumP k ((nm28.drop k).map fun x => .exc x v) ∧ Fx [] s s1
theorem law_right (h : PotAt s n c) (hc : c < 1000000000) (q : ∀ s', Fx [n] s s' → PotAt s' n (c + 10) → Q (.bl true) s') : wpR (Ph rs (j + 5) "_law_right" [.ref n] s) Q := by
  refine wp_call r__law_right m__law_right 7 (by kernel_rfl) rfl rfl rfl ?_
  have hn := h.lt
  rw [show startP 7 [.ref n] = [some (.ref n), none, none, none, none, none, none] from rfl]
  unfold m__law_right
  show wpS (mSeq st1 _ _ _ _) _
  rw [ev_seq, wpS_thn]
  refine drawn (j := j) h.top (by omega) fun v d s1 W1 P1 E1 => ?_
  have hst : s.top.g.length = s.g.length := rfl
  have E01 : Fx [n] s s1 := E1.top
  have l01 := E01.len
  show wpS (mSeq _ _ _ _ _) _
  rw [ev_seq, wpS_thn, ev_set, wpS_toS]
  simp only [ev_call, ev_cons, ev_nil, mVar_S, mVar_0, bind_ok, wpR_bind, wpR_ok, List.append_nil]
  refine made_wp (j := j + 3) (W1.bdh (Nat.le_refl _)) fun a s2 E2 ha a2 => ?_
  have W2 : Wd s.g.length s1.g.length s2 v d := W1.fx E2 (by simp)
  have P2 := P1.fx E2 (by simp)
  simp only [wpS_nx, sSet_S, sSet_0]
  show wpS (mSeq _ _ _ _ _) _
  rw [ev_seq, wpS_thn]
  refine wp_for0 (it := ⟨enumP 0 (nm28.map fun x => .exc x v), [(a, .lst (nm28.map fun x => .exc x v))], none⟩) (s1 := s2) ?_ rfl ?_
  · simp only [ev_mIL, ev_cons, ev_nil, mVar_S, mVar_0, bind_ok, enumL_ok a2]
  refine wp_forM (RwI s2 n a v none none) ?_ ?_ ?_ _ _ _ ?_
  · rintro ys sl s3 ⟨o3, o4, k, rfl, i1, i2, F⟩
    simpa using F.get a2 (by simp)
  · rintro y ys sl s3 ⟨o3, o4, k, rfl, i1, i2, F⟩
    by_cases hk : k < 28
    · have hk' : k < nm28.length := hk
      rw [List.drop_eq_getElem_cons hk', List.map_cons, enumP, List.cons.injEq] at i2
      obtain ⟨rfl, rfl⟩ := i2
      have hC := exc28 nm28[k] (List.getElem_mem hk')
      have hm := marks28 ⟨k, hk⟩
      have hB : ([nm28[k], "BideError"] : List Str).contains "BideError" = true := by simp
      refine ⟨[some (.ref n), some v, some (.ref a), some (.int k), some (.exc nm28[k] v), none, none], by simp, wpS_gcS ?_⟩
      dsimp only at hm
      generalize nm28[k] = C at hC hm hB
      have W3 : Wd s.g.length s1.g.length s3.top v d := (W2.fx F (by simp)).fx (ns := []) Fx.rt (by simp)
      rw [ev_seq, wpS_thn, ev_ifS, wpS_toS]
      simp only [ev_or, ev_not, ev_b, ev_cons, ev_nil, ev_c, mVar_S, mVar_0, bind_ok, wpR_bind, isX_ok hC excB, hB, isV_ok hC, wpR_ok, onB_bl, Bool.not_true, Bool.false_eq_true, if_false, onS_bl, ev_nx, wpS_nx]
      show wpS (mIfS _ _ _ _ _ _) _
      rw [ev_ifS, wpS_toS, wpR_gcE]
      simp only [ev_or, ev_bin, ev_b, ev_un, ev_cons, ev_nil, mVar_S, mVar_0, bind_ok, wpR_bind, xv_ok hC, (show vReprX [v] s3.top.top = .ok (.str d.shown) s3.top.top from W3.repr (s := s3.top)), ne_same W3.shp, wpR_ok, onB_bl, Bool.false_eq_true, if_false, ev_call, List.append_nil]
      refine marks_wp (j := j + 3) hC fun m1 s4 E4 hm1 a4 => ?_
      have A4 := E4.get (show s3.top.top.g[a]? = _ from F.get a2 (by simp)) (by simp)
      refine wp_lc0 (it := ⟨rngP 0 28, [], none⟩) (s1 := s4) ?_ rfl ?_
      · have := rng_ok (s := s4) (a := 28) (by decide) (by decide)
        simp only [ev_rng1, ev_cons, ev_nil, ev_mLenT, mVar_S, mVar_0, bind_ok, vLen_lst A4, List.length_map, show nm28.length = 28 from rfl]
        simpa using this
      refine wp_lcT (List.range 28) (fun (i : Nat) => .int (0 + (i : Int))) rfl (fun (i : Nat) => .bl (decide ((k : Int) = 0 + (i : Int)))) (by simp) (by simp; decide) (fun i hi s5 E5 => ?_) fun s5 E5 h5 => ?_
      · refine ⟨[some (.ref n), some v, some (.ref a), some (.int k), some (.exc C v), none, some (.int (0 + (i : Int)))], by simp, ?_⟩
        simp only [ev_bin, mVar_S, mVar_0, bind_ok, vEq_int, wpR_ok]
        exact ⟨trivial, Fx.refl⟩
      · have h6 : s5.g[s4.g.length]? = some (.lst ((nm28.map fun x => ([C, "BideError"] : List Str).contains x).map .bl)) := by
          rw [h5, hm, List.map_map]
          rfl
        simp only [ne_bls (E5.get a4 (by simp)) h6, wpR_ok, gcV_bl, onS_bl, Bool.false_eq_true, if_false, ev_nx, wpS_nx]
        have E35 : Fx [] s3 (gcst s3.top.g.length s3.top.low s5) := ((E4.trans E5).top.top).gc (Nat.le_refl _) (by have := (E4.trans E5).len; simpa using this)
        exact ⟨E35.len, fun s6 K6 _ => ⟨_, _, k + 1, rfl, by omega, rfl, F.trans (E35.kp K6)⟩⟩
    · have hd : nm28.drop k = [] := List.drop_of_length_le (by show 28 ≤ k; omega)
      rw [hd] at i2
      cases i2
  · rintro sl s3 ⟨o3, o4, k, rfl, i1, i2, F⟩
    have W3 : Wd s.g.length s1.g.length s3 v d := W2.fx F (by simp)
    show wpS (mSeq _ _ _ _ _) _
    rw [ev_seq, wpS_thn, ev_set, wpS_toS]
    simp only [ev_exc, ev_cons, ev_nil, mVar_S, mVar_0, bind_ok, wpR_ok, wpS_nx, sSet_S, sSet_0]
    show wpS (mRet _ _ _ _) _
    rw [ev_ret, wpS_toS]
    simp only [ev_and, ev_not, ev_bin, ev_b, ev_un, ev_cons, ev_nil, ev_c, mVar_S, mVar_0, bind_ok, wpR_bind, xv_ok excB, W3.repr, eq_same W3.shp, isV_ok excB, wpR_ok, onB_bl, if_true, ev_call, List.append_nil]
    refine marks_wp (j := j + 3) excB fun m1 s4 E4 hm1 a4 => ?_
    simp only [vAny_lst a4, marks0, wpR_ok, onB_bl, Bool.not_false, wpS_rt, gcV_bl]
    have E04 : Fx [n] s s4 := (E01.trans (E2.trans (F.trans E4)).nil)
    exact q _ E04.gc0 (((P2.fx (F.trans E4) (by simp)).gc hn).mono (by omega))
  · exact ⟨none, none, 0, rfl, by omega, rfl, Fx.refl⟩
end
end K00

end
section
set_option linter.all false
set_option autoImplicit false
set_option maxRecDepth 100000
set_option maxHeartbeats 4000000
namespace K00
open PySem L2 Bi SX
theorem size8 {n : Nat} (h : n ≤ 100000) : n < sizeLine := Nat.lt_of_le_of_lt h (by decide)
theorem listRg_ok {s : Sg} {n : Nat} (h : n < 1000) : vListRg1 [.int n] s = .ok (.ref s.g.length) (s.push (.lst ((List.range n).map fun (i : Nat) => PV.int (i : Int)))) := by
  have hs : smallI (n : Int) = true := by
    unfold smallI
    simp only [Bool.and_eq_true, decide_eq_true_eq]
    omega
  have h2 : (smallI (n : Int) && decide ((n : Int).toNat ≤ 2 ^ 24)) = true := by
    rw [hs]
    simp
    omega
  have h3 : rngP 0 (n : Int).toNat = (List.range n).map fun (i : Nat) => PV.int (i : Int) := by simp [rngP]
  simp only [vListRg1, h2, if_true, h3]
theorem pot_wp {j : Nat} {s : Sg} {ns : List Int} {k : Nat} {Q : PV → Sg → Prop} (hk : k < 100) (q : ∀ m s', Fx [] s s' → s.g.length ≤ m → PotAt s' m 0 → Q (.ref m) s') : wpR (Ph rs (j + 1) "_law_pot" [.lsq (ns.map .int), .int k] s) Q := by
  refine wp_call r__law_pot m__law_pot 5 (by kernel_rfl) rfl rfl rfl ?_
  obtain ⟨cell, hcell⟩ : ∃ cell : Int, ∀ Q' : PQ, Q'.nx [some (.lsq (ns.map .int)), some (.int k), some (.int cell), none, none] s.top → wpS (mSet 2 (mIf (mBin vLt (mVar 1) (mLenT tb (mCons (mVar 0) mNil))) (mBin vIx (mVar 0) (mVar 1)) (mBin vAdd (mBin vMul (mC (.int 217)) (mVar 1)) (mC (.int 131)))) (Ph rs j) [some (.lsq (ns.map .int)), some (.int k), none, none, none] s.top) Q' := by
    have m1 : cMul 217 (k : Int) = true := by unfold cMul; simp
    by_cases h : k < ns.length
    · refine ⟨ns[k], fun Q' hq => ?_⟩
      have e : vIx (.lsq (ns.map .int)) (.int (k : Int)) s.top = .ok (.int ns[k]) s.top := by
        simp only [vIx]
        rw [atI_nat (by simpa using h)]
        simp [opt]
      simp [h, e]
      exact hq
    · refine ⟨217 * k + 131, fun Q' hq => ?_⟩
      have e : vMul (.int 217) (.int (k : Int)) s.top = .ok (.int (217 * k)) s.top := by simp [vMul, m1]
      simp [h, e]
      exact hq
  rw [show startP 5 [.lsq (ns.map .int), .int k] = [some (.lsq (ns.map .int)), some (.int k), none, none, none] from rfl]
  unfold m__law_pot
  rw [ev_seq, wpS_thn]
  refine hcell _ ?_
  have hab : vAbs [.int cell] s.top = .ok (.int (if cell < 0 then -cell else cell)) s.top := rfl
  have hab0 : 0 ≤ (if cell < 0 then -cell else cell) := by split <;> omega
  generalize (if cell < 0 then -cell else cell) = ab at hab hab0
  have c1 : cPow 10 60 = true := by unfold cPow; decide +kernel
  have c2 : cPow ((10 : Int) ^ (60 : Int).toNat) 5 = true := by unfold cPow; decide +kernel
  have c3 : cPow 10 18 = true := by unfold cPow; decide +kernel
  have p1 : vPow (.int 10) (.int 60) s.top = .ok (.int ((10 : Int) ^ (60 : Int).toNat)) s.top := by unfold vPow; rw [ev_i2c, if_pos c1]
  have p2 : vPow (.int ((10 : Int) ^ (60 : Int).toNat)) (.int 5) s.top = .ok (.int (((10 : Int) ^ (60 : Int).toNat) ^ (5 : Int).toNat)) s.top := by unfold vPow; rw [ev_i2c, if_pos c2]
  have p3 : vPow (.int 10) (.int 18) s.top = .ok (.int ((10 : Int) ^ (18 : Int).toNat)) s.top := by unfold vPow; rw [ev_i2c, if_pos c3]
  have hpos : 0 < ((10 : Int) ^ (60 : Int).toNat) ^ (5 : Int).toNat := by decide +kernel
  generalize hbig : ((10 : Int) ^ (60 : Int).toNat) ^ (5 : Int).toNat = big at p2 hpos
  generalize hb1 : (10 : Int) ^ (60 : Int).toNat = b1 at p1 p2
  generalize hb2 : (10 : Int) ^ (18 : Int).toNat = b2 at p3
  have q1 : vMod (.int ab) (.int big) s.top = .ok (.int (ab % big)) s.top := by simp [vMod, hpos]
  obtain ⟨t, ht, ht2⟩ : ∃ t : Int, (t = 0 ∨ t = 1) ∧ t = (if b2 ≤ ab then 1 else 0) := by
    by_cases h : b2 ≤ ab
    · exact ⟨1, .inr rfl, by rw [if_pos h]⟩
    · exact ⟨0, .inl rfl, by rw [if_neg h]⟩
  have q2 : vMul (.int (ab % big)) (.int t) s.top = .ok (.int (ab % big * t)) s.top := by
    have : cMul (ab % big) t = true := by
      unfold cMul
      simp only [Bool.or_eq_true, Bool.and_eq_true, decide_eq_true_eq]
      right
      omega
    simp [vMul, this]
  have q3 : ∀ s : Sg, vMod (.int cell) (.int 2305843009213693951) s = .ok (.int (cell % 2305843009213693951)) s := fun s => by simp [vMod]
  have m0 : 0 ≤ cell % 2305843009213693951 := Int.emod_nonneg _ (by decide)
  have m1 : cell % 2305843009213693951 < 2305843009213693951 := Int.emod_lt_of_pos _ (by decide)
  generalize hsm : cell % 2305843009213693951 = small at q3 m0 m1
  have q4 : ∀ s : Sg, vMul (.int small) (.int 80681) s = .ok (.int (small * 80681)) s := fun s => by
    have : cMul small 80681 = true := by
      unfold cMul
      simp only [Bool.or_eq_true, Bool.and_eq_true, decide_eq_true_eq]
      right
      omega
    simp [vMul, this]
  have q5 : ∀ s : Sg, vMul (.int 8329) (.int (k : Int)) s = .ok (.int (8329 * k)) s := fun s => by
    have : cMul 8329 (k : Int) = true := by unfold cMul; simp
    simp [vMul, this]
  have q6 : ∀ s : Sg, vMul (.int (8329 * (k : Int))) (.int (k : Int)) s = .ok (.int (8329 * k * k)) s := fun s => by
    have : cMul (8329 * (k : Int)) (k : Int) = true := by
      unfold cMul
      simp only [Bool.or_eq_true, Bool.and_eq_true, decide_eq_true_eq]
      right
      omega
    simp [vMul, this]
  have q7 : ∀ (z : Int) (s : Sg), vMod (.int z) (.int 2305843009213693921) s = .ok (.int (z % 2305843009213693921)) s := fun z s => by simp [vMod]
  have hge : vGe (.int ab) (.int b2) s.top = .ok (.bl (decide (b2 ≤ ab))) s.top := rfl
  have hib : Bi.vInt [.bl (decide (b2 ≤ ab))] s.top = .ok (.int t) s.top := by
    rw [vInt_bl, ht2]
    simp
  simp only [ev_seq, wpS_thn, ev_set, wpS_toS, ev_bin, ev_b, ev_cons, ev_nil, ev_c, mVar_S, mVar_0, bind_ok, wpR_bind, wpR_ok, hab, p1, p2, p3, q1, hge, hib, q2, vInt_int, wpS_nx, sSet_S, sSet_0, q3, ev_ret, ev_lst, q4, q5, q6, vAdd_int, q7, lstK3, wpS_rt]
  have n0 : 0 ≤ ab % big * t := Int.mul_nonneg (Int.emod_nonneg _ (by omega)) (by omega)
  have n1 : 0 ≤ (small * 80681 + 8329 * k * k + 113) % 2305843009213693921 := Int.emod_nonneg _ (by decide)
  have n2 : (small * 80681 + 8329 * k * k + 113) % 2305843009213693921 < 2305843009213693921 := Int.emod_lt_of_pos _ (by decide)
  generalize (small * 80681 + 8329 * (k : Int) * k + 113) % 2305843009213693921 = seed at n1 n2 ⊢
  refine gcv_new (n := s.g.length) (by simp) (by simp) (push_new (s := s.top)) (by simp [PO.bd, PV.bd]) fun m s' K hm e => q m s' ((Fx.rt.push _).kp K) hm ⟨_, seed, 0, e, n0, n1, by omega, Int.le_refl _, Int.le_refl _⟩
theorem places_wp {j : Nat} {s : Sg} {ns : List Int} {Q : PV → Sg → Prop} (q : ∀ a m s', a ≤ 4 → Fx [] s s' → s.g.length ≤ m → s'.g[m]? = some (.lst ((List.range a).map fun (i : Nat) => PV.int (i : Int))) → Q (.ref m) s') : wpR (Ph rs (j + 1) "_law_places" [.lsq (ns.map .int), .int 4] s) Q := by
  refine wp_call r__law_places m__law_places 2 (by kernel_rfl) rfl rfl rfl ?_
  have e : max 1 (min 4 (ns.length : Int)) = ((max 1 (min 4 ns.length) : Nat) : Int) := by omega
  simp [m__law_places, startP, mListRg1]
  rw [show max 1 (min 4 (ns.length : Int)) = ((max 1 (min 4 ns.length) : Nat) : Int) by omega, listRg_ok (by omega), wpR_ok]
  refine gcv_new (n := s.g.length) (by simp) (by simp) (push_new (s := s.top)) (bds_map (fun _ => by rw [PV.bd]) 0 _) fun m s' K hm e => q _ m s' (by omega) ((Fx.rt.push _).kp K) hm e
theorem law_wp {j : Nat} {s : Sg} {ns : List Int} : wpR (Ph rs (j + 6) "law" [.lsq (ns.map .int)] s) fun v _ => v = .bl true := by
  refine wp_call r_law m_law 2 (by kernel_rfl) rfl rfl rfl ?_
  rw [show startP 2 [.lsq (ns.map .int)] = [some (.lsq (ns.map .int)), none] from rfl]
  unfold m_law
  rw [ev_ret, wpS_toS]
  simp only [ev_b, ev_cons, ev_nil, wpR_bind]
  refine wp_lcW ?_
  simp only [ev_mI, ev_call, ev_cons, ev_nil, ev_c, mVar_0, bind_ok, wpR_bind, wpR_ok, List.append_nil]
  refine places_wp (j := j + 4) fun a m s1 ha E1 hm e1 => ?_
  simp only [vIter_lst e1, wpR_ok, chk_none]
  refine ⟨trivial, ?_⟩
  refine wp_lcT (List.range a) (fun (i : Nat) => .int (i : Int)) rfl (fun _ => .bl true) (fun s3 E3 => by simpa using E3.get e1 (by simp)) (size8 (by simp; omega)) (fun i hi s3 E3 => ?_) fun s3 E3 h3 => ?_
  · have hi' := List.mem_range.mp hi
    refine ⟨[some (.lsq (ns.map .int)), some (.int i)], by simp, ?_⟩
    rw [wpR_gcE]
    simp only [ev_call, ev_cons, ev_nil, mVar_S, mVar_0, bind_ok, wpR_bind, wpR_ok, List.append_nil]
    refine pot_wp (j := j + 4) (k := i) (by omega) fun m4 s4 E4 hm4 P4 => ?_
    refine law_right (j := j) P4 (by omega) fun s5 E5 P5 => ?_
    simp only [gcV_bl, wpR_ok]
    have hst : s3.top.g.length = s3.g.length := rfl
    exact ⟨trivial, (E4.top.trans' E5 fun i hi hlt => by simp at hi; omega).gc0⟩
  · have h4 : s3.g[s1.g.length]? = some (.lst (((List.range a).map fun _ => true).map .bl)) := by rw [h3, List.map_map]; rfl
    have hall : (((List.range a).map fun _ => true).all id) = true := by simp
    simp only [wpR_ok, vAll_lst h4, hall, wpS_rt, gcV_bl]
def LawOk : Prop := ∀ ns : List Int, ns.length ≤ 63 → ∃ s', Ph rs 20 (PySem.Str.ofString "law") [.lsq (ns.map .int)] sg0 = .ok (.bl true) s'
theorem law_ok : LawOk := fun ns _ => by
  obtain ⟨v, s', e, rfl⟩ := wpR_some (law_wp (j := 14) (s := sg0) (ns := ns))
  exact ⟨s', e⟩
end K00

end
section
set_option Elab.async false
set_option linter.all false
set_option maxRecDepth 100000
set_option maxHeartbeats 0
open PySem PySem.W PySem.Calls PyProof.Rows
theorem PySem.Challenge.cw_bidehours_k00_errors_keep_their_values_holds : PySem.Challenge.rw_bidehours_k00_errors_keep_their_values.Holds := by
  w_on; o_law
  refine HandSHeadRun.head_any (r := OpenLaw.row PySem.Challenge.rw_bidehours_k00_errors_keep_their_values) (q := view (OpenLaw.row PySem.Challenge.rw_bidehours_k00_errors_keep_their_values).prog [39]) (H := K00.hk) (ob := K00.ob) (M := 9000) (loose := K00.loose) (d := HandSHeadRun.topDef (OpenLaw.row PySem.Challenge.rw_bidehours_k00_errors_keep_their_values).prog 39) (kwd := []) K00.ob_eq
    (by kernel_rfl) (fun s => by kernel_rfl) K00.run (by kernel_rfl) (by kernel_rfl) (by kernel_rfl) (by rfl) (by first | assumption | decide +kernel) (by decide +kernel) ⟨rfl, rfl, rfl, rfl, rfl, by decide +kernel⟩ ?hw ?hc
  case hw => w_witness2
  case hc =>
    exact Bi.holds_of (l := PySem.Challenge.rw_bidehours_k00_errors_keep_their_values) (n := 63) (rl := K00.r_law) (x := "_law_script") rfl (by decide) (by kernel_rfl) K00.ok_all K00.rows_ok (by kernel_rfl) (by decide +kernel) (by kernel_rfl) rfl rfl (fun _ _ _ _ _ _ us hl => match us, hl with | [_], _ => rfl) (.inr ⟨by kernel_rfl, by decide +kernel⟩) K00.law_ok


end
