import PyProof.Rows.All
import Wide.All
import OpenK.AllK
import Wide.FinOn
import HandS.ForMost
import HandS.Wide
import HandS.Zip
import HandS.ExcValue
import HandS.ExcIs
import HandS.WordsExc
import HandS.ExcOwn
import HandS.Exc
import HandS.IsInst
import HandS.TupAny
import HandS.TupMul
import HandS.Style
import HandS.SortRule
import HandS.SortInts
import HandS.Text
import HandS.Conv
import KE.GoesZip
import KE.GoesMore
import KE.DataFind
import HandS.ExcBuiltin
import PyProof.EnumMake
import KE.DatumOrd
import KE.SortData
import PySem.Challenge.RW_underone_k27_papers_of_no_lattice
set_option Elab.async false
set_option linter.all false
set_option maxRecDepth 100000
/-! L3: a layer of values over HandS: data (PyData), lists of one's own as trees, no addresses in sight. -/
namespace L3
open PySem PySem.Spec PyProof.Rows L2
/-- a value: data that never changes again, a plain V, the script (a list of ints that is only read), a list of one's own (it may be changed), a tuple of such -/
inductive T where
  | d (x : PyData) | v (x : V) | sc (a : Addr) (ns : List Int) | own (a : Addr) (l : List T) | tp (l : List T)
abbrev Rho := List (Option T)
def Sub (Z Z' : Hp) : Prop := ∀ a o, Z a = some o → Z' a = some o
theorem Sub.refl (Z : Hp) : Sub Z Z := fun _ _ h => h
theorem Sub.trans {A B C : Hp} (h : Sub A B) (k : Sub B C) : Sub A C := fun a o e => k a o (h a o e)
theorem Sub.L {K : PySem.W.Frag} {Z Z' : Hp} {a : Addr} {xs : List V} (e : Sub Z Z') (h : SqL K Z a xs) : SqL K Z' a xs := by
  rcases h with (h | ⟨o, h⟩) | h
  · exact .inl (.inl (e _ _ h))
  · exact .inl (.inr ⟨o, e _ _ h⟩)
  · exact .inr h
theorem Sub.T {K : PySem.W.Frag} {Z Z' : Hp} {a : Addr} {xs : List V} (e : Sub Z Z') (h : SqT K Z a xs) : SqT K Z' a xs := by
  rcases h with (h | ⟨o, h⟩) | h
  · exact .inl (.inl (e _ _ h))
  · exact .inl (.inr ⟨o, e _ _ h⟩)
  · exact .inr h
/-- an object that is an exception of the class C, and stays one -/
def IsExc (C : Addr) (a : Addr) (o : HO) : Prop := ∃ φ, o = .ext φ ∧ ∀ h, φ h → ∃ (oe : Obj) (vs : Array Value), h.get? a = some oe ∧ Zc (.ref C) none oe ∧ oe.data = .fields vs
/-- an exception of the class C, as data -/
abbrev excD (C : Addr) : PyData := .dict [(.int (C : Nat), .none)]
mutual
inductive Dq (K : PySem.W.Frag) (H : Hp) : V → PyData → Prop
  | non : Dq K H .non .none
  | bl (b : Bool) : Dq K H (.bl b) (.bool b)
  | int (i : Int) : Dq K H (.int i) (.int i)
  | str (x : Str) : Dq K H (.str x) (.str x)
  | lst {a : Addr} {xs : List V} {ds : List PyData} : H a = some (.lst xs) → DqAll K H xs ds → Dq K H (.ref a) (.list ds)
  | tup {a : Addr} {xs : List V} {ds : List PyData} : H a = some (.tup xs) → DqAll K H xs ds → Dq K H (.ref a) (.tuple ds)
  | exc {a C : Addr} {o : HO} : H a = some o → IsExc C a o → Dq K H (.ref a) (excD C)
inductive DqAll (K : PySem.W.Frag) (H : Hp) : List V → List PyData → Prop
  | nil : DqAll K H [] []
  | cons {v : V} {vs : List V} {d : PyData} {ds : List PyData} : Dq K H v d → DqAll K H vs ds → DqAll K H (v :: vs) (d :: ds)
end
mutual
theorem dq_dp {K : PySem.W.Frag} {Z : Hp} : ∀ (d : PyData) (v : V), d.canLay0 = true → Dq K Z v d → Dp K Z v d
  | .none, _, _, h => by cases h; exact .non
  | .bool b, _, _, h => by cases h; exact .bl b
  | .int i, _, _, h => by cases h; exact .int i
  | .str x, _, _, h => by cases h; exact .str x
  | .list ds, _, c, h => by
    cases h with
    | lst hs ha => exact .lst (SqL.of hs) (dqa_dp ds _ (by simpa [PyData.canLay0] using c) ha)
  | .tuple ds, _, c, h => by
    cases h with
    | tup hs ha => exact .tup (SqT.of hs) (dqa_dp ds _ (by simpa [PyData.canLay0] using c) ha)
  | .dict _, _, c, h => by simp [PyData.canLay0] at c
theorem dqa_dp {K : PySem.W.Frag} {Z : Hp} : ∀ (ds : List PyData) (vs : List V), PyData.canLayAll0 ds = true → DqAll K Z vs ds → DpAll K Z vs ds
  | [], _, _, h => by cases h; exact .nil
  | d :: ds, _, c, h => by
    have c' : d.canLay0 = true ∧ PyData.canLayAll0 ds = true := by simpa [PyData.canLayAll0] using c
    cases h with
    | cons h1 h2 => exact .cons (dq_dp d _ c'.1 h1) (dqa_dp ds _ c'.2 h2)
end
mutual
theorem dp_mono {K : PySem.W.Frag} {Z Z' : Hp} (e : Sub Z Z') : ∀ (d : PyData) (v : V), Dq K Z v d → Dq K Z' v d
  | .none, _, h => by cases h; exact .non
  | .bool b, _, h => by cases h; exact .bl b
  | .int i, _, h => by cases h; exact .int i
  | .str x, _, h => by cases h; exact .str x
  | .list ds, _, h => by
    cases h with
    | lst hs ha => exact .lst (e _ _ hs) (dpa_mono e ds _ ha)
  | .tuple ds, _, h => by
    cases h with
    | tup hs ha => exact .tup (e _ _ hs) (dpa_mono e ds _ ha)
  | .dict _, _, h => by
    cases h with
    | exc h1 h2 => exact .exc (e _ _ h1) h2
theorem dpa_mono {K : PySem.W.Frag} {Z Z' : Hp} (e : Sub Z Z') : ∀ (ds : List PyData) (vs : List V), DqAll K Z vs ds → DqAll K Z' vs ds
  | [], _, h => by cases h; exact .nil
  | d :: ds, _, h => by
    cases h with
    | cons h1 h2 => exact .cons (dp_mono e d _ h1) (dpa_mono e ds _ h2)
end
mutual
/-- no list within -/
def LF : PyData → Bool
  | .list _ => false
  | .tuple ds => LFs ds
  | .dict _ => false
  | .none => true
  | .bool _ => true
  | .int _ => true
  | .str _ => true
def LFs : List PyData → Bool
  | [] => true
  | d :: ds => LF d && LFs ds
end
/-- a heap without some tracked lists -/
def SubT (Z Z' : Hp) : Prop := ∀ a o, Z a = some o → (∀ xs, o ≠ .lst xs) → Z' a = some o
theorem SubT.T {K : PySem.W.Frag} {Z Z' : Hp} {a : Addr} {xs : List V} (e : SubT Z Z') (h : SqT K Z a xs) : SqT K Z' a xs := by
  rcases h with (h | ⟨o, h⟩) | h
  · exact .inl (.inl (e _ _ h (fun _ q => nomatch q)))
  · exact .inl (.inr ⟨o, e _ _ h (fun _ q => nomatch q)⟩)
  · exact .inr h
mutual
theorem dp_lf {K : PySem.W.Frag} {Z Z' : Hp} (e : SubT Z Z') : ∀ (d : PyData) (v : V), LF d = true → Dq K Z v d → Dq K Z' v d
  | .none, _, _, h => by cases h; exact .non
  | .bool b, _, _, h => by cases h; exact .bl b
  | .int i, _, _, h => by cases h; exact .int i
  | .str x, _, _, h => by cases h; exact .str x
  | .list ds, _, l, h => by simp [LF] at l
  | .tuple ds, _, l, h => by
    cases h with
    | tup hs ha => exact .tup (e _ _ hs (fun _ q => nomatch q)) (dpa_lf e ds _ (by simpa [LF] using l) ha)
  | .dict _, _, l, h => by simp [LF] at l
theorem dpa_lf {K : PySem.W.Frag} {Z Z' : Hp} (e : SubT Z Z') : ∀ (ds : List PyData) (vs : List V), LFs ds = true → DqAll K Z vs ds → DqAll K Z' vs ds
  | [], _, _, h => by cases h; exact .nil
  | d :: ds, _, l, h => by
    have l' : LF d = true ∧ LFs ds = true := by simpa [LFs] using l
    cases h with
    | cons h1 h2 => exact .cons (dp_lf e d _ l'.1 h1) (dpa_lf e ds _ l'.2 h2)
end
mutual
inductive RT (K : PySem.W.Frag) (Z H : Hp) : T → V → Prop
  | d {x : PyData} {v : V} : Dq K Z v x → RT K Z H (.d x) v
  | v {x : V} : RT K Z H (.v x) x
  | sc {a : Addr} {ns : List Int} : SqL K Z a (ns.map V.int) → RT K Z H (.sc a ns) (.ref a)
  | own {a : Addr} {l : List T} {xs : List V} : H a = some (.lst xs) → RTs K Z H l xs → RT K Z H (.own a l) (.ref a)
  | tp {a : Addr} {l : List T} {xs : List V} : Z a = some (.tup xs) → RTs K Z H l xs → RT K Z H (.tp l) (.ref a)
inductive RTs (K : PySem.W.Frag) (Z H : Hp) : List T → List V → Prop
  | nil : RTs K Z H [] []
  | cons {t : T} {l : List T} {v : V} {vs : List V} : RT K Z H t v → RTs K Z H l vs → RTs K Z H (t :: l) (v :: vs)
end
mutual
/-- how often the list at a stands in it as one's own -/
def ct (a : Addr) : T → Nat
  | .d _ => 0
  | .v _ => 0
  | .sc _ _ => 0
  | .own b l => (if b = a then 1 else 0) + cts a l
  | .tp l => cts a l
def cts (a : Addr) : List T → Nat
  | [] => 0
  | t :: l => ct a t + cts a l
end
def cto (a : Addr) : Rho → Nat
  | [] => 0
  | none :: r => cto a r
  | some t :: r => ct a t + cto a r
def ctq (a : Addr) : Option T → Nat
  | none => 0
  | some t => ct a t
theorem cto_cons (a : Addr) (q : Option T) (r : Rho) : cto a (q :: r) = ctq a q + cto a r := by
  cases q with
  | none => show cto a r = 0 + cto a r; omega
  | some t => rfl
theorem cto_set (a : Addr) : ∀ (r : Rho) (i : Nat) (q x : Option T), r[i]? = some q → cto a (r.set i x) + ctq a q = cto a r + ctq a x
  | [], i, q, x, h => by simp at h
  | y :: r, 0, q, x, h => by
    have e : y = q := by simpa using h
    subst e
    rw [List.set_cons_zero, cto_cons, cto_cons]
    omega
  | y :: r, i + 1, q, x, h => by
    have h' : r[i]? = some q := by simpa using h
    have ih := cto_set a r i q x h'
    rw [List.set_cons_succ, cto_cons, cto_cons]
    omega
theorem cto_set_ge (a : Addr) : ∀ (r : Rho) (i : Nat) (x : Option T), r.length ≤ i → cto a (r.set i x) = cto a r := fun r i x h => by
  rw [List.set_eq_of_length_le h]
theorem cts_append (a : Addr) : ∀ (l m : List T), cts a (l ++ m) = cts a l + cts a m
  | [], m => by simp [cts]
  | t :: l, m => by simp only [List.cons_append, cts, cts_append a l m]; omega
theorem cts_get (a : Addr) : ∀ (l : List T) (i : Nat) (t : T), l[i]? = some t → ct a t ≤ cts a l
  | [], i, t, h => by simp at h
  | y :: l, 0, t, h => by
    have e : y = t := by simpa using h
    subst e
    simp only [cts]
    omega
  | y :: l, i + 1, t, h => by
    have h' : l[i]? = some t := by simpa using h
    have := cts_get a l i t h'
    simp only [cts]
    omega
theorem cts_set (a : Addr) : ∀ (l : List T) (i : Nat) (t x : T), l[i]? = some t → cts a (l.set i x) + ct a t = cts a l + ct a x
  | [], i, t, x, h => by simp at h
  | y :: l, 0, t, x, h => by
    have e : y = t := by simpa using h
    subst e
    simp only [List.set_cons_zero, cts]
    omega
  | y :: l, i + 1, t, x, h => by
    have h' : l[i]? = some t := by simpa using h
    have := cts_set a l i t x h'
    simp only [List.set_cons_succ, cts]
    omega
theorem cto_get (a : Addr) : ∀ (r : Rho) (i : Nat) (t : T), r[i]? = some (some t) → ct a t ≤ cto a r
  | [], i, t, h => by simp at h
  | y :: r, 0, t, h => by
    have e : y = some t := by simpa using h
    subst e
    simp only [cto]
    omega
  | y :: r, i + 1, t, h => by
    have h' : r[i]? = some (some t) := by simpa using h
    have := cto_get a r i t h'
    rw [cto_cons]
    omega
mutual
theorem rt_mono {K : PySem.W.Frag} {Z Z' H H' : Hp} (e : Sub Z Z') : ∀ (t : T) (v : V), (∀ a, 0 < ct a t → ∀ o, H a = some o → H' a = some o) → RT K Z H t v → RT K Z' H' t v
  | .d x, v, _, h => by
    cases h with
    | d h => exact .d (dp_mono e x v h)
  | .v x, v, _, h => by cases h; exact .v
  | .sc a ns, v, _, h => by
    cases h with
    | sc h => exact .sc (e.L h)
  | .own a l, v, k, h => by
    cases h with
    | own h1 h2 => exact .own (k a (by simp only [ct, if_true]; omega) _ h1) (rts_mono e l _ (fun b hb => k b (by simp only [ct]; omega)) h2)
  | .tp l, v, k, h => by
    cases h with
    | tp h1 h2 => exact .tp (e _ _ h1) (rts_mono e l _ (fun b hb => k b (by simp only [ct]; omega)) h2)
theorem rts_mono {K : PySem.W.Frag} {Z Z' H H' : Hp} (e : Sub Z Z') : ∀ (l : List T) (vs : List V), (∀ a, 0 < cts a l → ∀ o, H a = some o → H' a = some o) → RTs K Z H l vs → RTs K Z' H' l vs
  | [], _, _, h => by cases h; exact .nil
  | t :: l, _, k, h => by
    cases h with
    | cons h1 h2 => exact .cons (rt_mono e t _ (fun a ha => k a (by simp only [cts]; omega)) h1) (rts_mono e l _ (fun a ha => k a (by simp only [cts]; omega)) h2)
end
mutual
def lft : T → Bool
  | .d x => LF x
  | .v _ => true
  | .sc _ _ => false
  | .own _ l => lfts l
  | .tp l => lfts l
def lfts : List T → Bool
  | [] => true
  | t :: l => lft t && lfts l
end
mutual
theorem rt_lf {K : PySem.W.Frag} {Z Z' H : Hp} (e : SubT Z Z') : ∀ (t : T) (v : V), lft t = true → RT K Z H t v → RT K Z' H t v
  | .d x, v, k, h => by
    cases h with
    | d h => exact .d (dp_lf e x v (by simpa [lft] using k) h)
  | .v x, v, _, h => by cases h; exact .v
  | .sc a ns, v, k, h => by simp [lft] at k
  | .own a l, v, k, h => by
    cases h with
    | own h1 h2 => exact .own h1 (rts_lf e l _ (by simpa [lft] using k) h2)
  | .tp l, v, k, h => by
    cases h with
    | tp h1 h2 => exact .tp (e _ _ h1 (fun _ q => nomatch q)) (rts_lf e l _ (by simpa [lft] using k) h2)
theorem rts_lf {K : PySem.W.Frag} {Z Z' H : Hp} (e : SubT Z Z') : ∀ (l : List T) (vs : List V), lfts l = true → RTs K Z H l vs → RTs K Z' H l vs
  | [], _, _, h => by cases h; exact .nil
  | t :: l, _, k, h => by
    have k' : lft t = true ∧ lfts l = true := by simpa [lfts] using k
    cases h with
    | cons h1 h2 => exact .cons (rt_lf e t _ k'.1 h1) (rts_lf e l _ k'.2 h2)
end
mutual
def fz : T → PyData
  | .d x => x
  | .v _ => .none
  | .sc _ _ => .none
  | .own _ l => .list (fzs l)
  | .tp l => .tuple (fzs l)
def fzs : List T → List PyData
  | [] => []
  | t :: l => fz t :: fzs l
end
mutual
def nv : T → Bool
  | .d _ => true
  | .v _ => false
  | .sc _ _ => false
  | .own _ l => nvs l
  | .tp l => nvs l
def nvs : List T → Bool
  | [] => true
  | t :: l => nv t && nvs l
end
mutual
theorem rt_fz {K : PySem.W.Frag} {Z Z' H : Hp} (e : Sub Z Z') : ∀ (t : T) (v : V), nv t = true → (∀ a, 0 < ct a t → ∀ o, H a = some o → Z' a = some o) → RT K Z H t v → Dq K Z' v (fz t)
  | .d x, v, _, _, h => by
    cases h with
    | d h => exact dp_mono e x v h
  | .v x, v, k, _, h => by simp [nv] at k
  | .sc a ns, v, k, _, h => by simp [nv] at k
  | .own a l, v, k, j, h => by
    cases h with
    | own h1 h2 => exact .lst (j a (by simp only [ct, if_true]; omega) _ h1) (rts_fz e l _ (by simpa [nv] using k) (fun b hb => j b (by simp only [ct]; omega)) h2)
  | .tp l, v, k, j, h => by
    cases h with
    | tp h1 h2 => exact .tup (e _ _ h1) (rts_fz e l _ (by simpa [nv] using k) (fun b hb => j b (by simp only [ct]; omega)) h2)
theorem rts_fz {K : PySem.W.Frag} {Z Z' H : Hp} (e : Sub Z Z') : ∀ (l : List T) (vs : List V), nvs l = true → (∀ a, 0 < cts a l → ∀ o, H a = some o → Z' a = some o) → RTs K Z H l vs → DqAll K Z' vs (fzs l)
  | [], _, _, _, h => by cases h; exact .nil
  | t :: l, _, k, j, h => by
    have k' : nv t = true ∧ nvs l = true := by simpa [nvs] using k
    cases h with
    | cons h1 h2 => exact .cons (rt_fz e t _ k'.1 (fun a ha => j a (by simp only [cts]; omega)) h1) (rts_fz e l _ k'.2 (fun a ha => j a (by simp only [cts]; omega)) h2)
end
mutual
/-- where a list of one's own stands it is tracked as a list -/
theorem rt_own {K : PySem.W.Frag} {Z H : Hp} {a : Addr} : ∀ (t : T) (v : V), RT K Z H t v → 0 < ct a t → ∃ xs, H a = some (.lst xs)
  | .d x, v, h, c => by simp [ct] at c
  | .v x, v, h, c => by simp [ct] at c
  | .sc b ns, v, h, c => by simp [ct] at c
  | .own b l, v, h, c => by
    cases h with
    | own h1 h2 =>
      by_cases e : b = a
      · subst e; exact ⟨_, h1⟩
      · exact rts_own l _ h2 (by simp only [ct, if_neg e] at c; omega)
  | .tp l, v, h, c => by
    cases h with
    | tp h1 h2 => exact rts_own l _ h2 (by simpa [ct] using c)
theorem rts_own {K : PySem.W.Frag} {Z H : Hp} {a : Addr} : ∀ (l : List T) (vs : List V), RTs K Z H l vs → 0 < cts a l → ∃ xs, H a = some (.lst xs)
  | [], _, h, c => by simp [cts] at c
  | t :: l, _, h, c => by
    cases h with
    | cons h1 h2 =>
      by_cases e : 0 < ct a t
      · exact rt_own t _ h1 e
      · exact rts_own l _ h2 (by simp only [cts] at c; omega)
end
/-- the state: data at Z (never changed), what is not ours at G, lists of our own: each at one place -/
structure S3 (K : PySem.W.Frag) (G Z H : Hp) (ks : List T) (vs : List V) (r : Rho) (s : L2.St) : Prop where
  zh : Sub Z H
  gh : Sub G H
  one : ∀ a, cts a ks + cto a r ≤ 1
  ow : ∀ a, 0 < cts a ks + cto a r → Z a = none ∧ G a = none
  stk : RTs K Z H ks vs
  slot : ∀ (i : Nat) (t : T), r[i]? = some (some t) → ∃ v, s[i]? = some (some v) ∧ RT K Z H t v
  len : r.length = s.length
section
variable {K : PySem.W.Frag} {G Z Z' H H' : Hp} {ks : List T} {vs : List V} {r r' : Rho} {s : L2.St} {t : T} {v : V} {i : Nat} {a : Addr}
theorem S3.owned (h : S3 K G Z H ks vs r s) (c : 0 < cts a ks + cto a r) : ∃ xs, H a = some (.lst xs) := by
  by_cases e : 0 < cts a ks
  · exact rts_own ks vs h.stk e
  · have c2 : 0 < cto a r := by omega
    have : ∀ (r : Rho), 0 < cto a r → ∃ (i : Nat) (t : T), r[i]? = some (some t) ∧ 0 < ct a t := by
      intro r
      induction r with
      | nil => intro z; simp [cto] at z
      | cons q r ih =>
        intro z
        rw [cto_cons] at z
        by_cases y : 0 < ctq a q
        · cases q with
          | none => simp [ctq] at y
          | some t => exact ⟨0, t, rfl, y⟩
        · obtain ⟨i, t, e1, e2⟩ := ih (by omega)
          exact ⟨i + 1, t, by simpa using e1, e2⟩
    obtain ⟨i, t, e1, e2⟩ := this r c2
    obtain ⟨v, _, q⟩ := h.slot i t e1
    exact rt_own t v q e2
/-- a new heap that leaves what we know as it is -/
theorem S3.grow (h : S3 K G Z H ks vs r s) (hz : Sub Z Z') (hh : ∀ a, 0 < cts a ks + cto a r → H' a = H a) (zh : Sub Z' H') (gh : Sub G H') (zn : ∀ a, 0 < cts a ks + cto a r → Z' a = none) : S3 K G Z' H' ks vs r s where
  zh := zh
  gh := gh
  one := h.one
  ow := fun a c => ⟨zn a c, (h.ow a c).2⟩
  stk := rts_mono hz ks vs (fun a c o e => by rw [hh a (by omega)]; exact e) h.stk
  slot := fun i t e => by
    obtain ⟨v, e1, q⟩ := h.slot i t e
    exact ⟨v, e1, rt_mono hz t v (fun a c o e' => by rw [hh a (by have := cto_get a r i t e; omega)]; exact e') q⟩
  len := h.len
/-- the topmost one dropped -/
theorem S3.pop (h : S3 K G Z H (t :: ks) (v :: vs) r s) : S3 K G Z H ks vs r s where
  zh := h.zh
  gh := h.gh
  one := fun a => by have := h.one a; simp only [cts] at this; omega
  ow := fun a c => h.ow a (by simp only [cts]; omega)
  stk := by cases h.stk with | cons _ q => exact q
  slot := h.slot
  len := h.len
theorem S3.top (h : S3 K G Z H (t :: ks) (v :: vs) r s) : RT K Z H t v := by cases h.stk with | cons q _ => exact q
/-- data put on top -/
theorem S3.push (h : S3 K G Z H ks vs r s) (c : ∀ a, ct a t = 0) (q : RT K Z H t v) : S3 K G Z H (t :: ks) (v :: vs) r s where
  zh := h.zh
  gh := h.gh
  one := fun a => by have := h.one a; have := c a; simp only [cts]; omega
  ow := fun a k => h.ow a (by have := c a; simp only [cts] at k; omega)
  stk := .cons q h.stk
  slot := h.slot
  len := h.len
theorem S3.pushD {x : PyData} (h : S3 K G Z H ks vs r s) (q : Dq K Z v x) : S3 K G Z H (.d x :: ks) (v :: vs) r s := h.push (fun _ => rfl) (.d q)
/-- a slot's tree taken out -/
theorem S3.take (h : S3 K G Z H ks vs r s) (e : r[i]? = some (some t)) : ∃ v, s[i]? = some (some v) ∧ S3 K G Z H (t :: ks) (v :: vs) (r.set i none) s := by
  obtain ⟨v, e1, q⟩ := h.slot i t e
  have cs : ∀ a, cto a (r.set i none) + ct a t = cto a r := fun a => by have := cto_set a r i (some t) none e; simpa [ctq] using this
  refine ⟨v, e1, ⟨h.zh, h.gh, fun a => ?_, fun a c => h.ow a ?_, .cons q h.stk, fun j u ej => ?_, by rw [List.length_set]; exact h.len⟩⟩
  · have := h.one a; have := cs a; simp only [cts]; omega
  · have := cs a; simp only [cts] at c; omega
  · by_cases hj : j = i
    · subst hj
      have : j < r.length := (List.getElem?_eq_some_iff.mp e).1
      rw [List.getElem?_set_self this] at ej
      cases ej
    · rw [List.getElem?_set_ne (Ne.symm hj)] at ej
      exact h.slot j u ej
/-- the topmost one put into a slot -/
theorem S3.put (h : S3 K G Z H (t :: ks) (v :: vs) r s) (hi : i < r.length) : S3 K G Z H ks vs (r.set i (some t)) (s.set i (some v)) where
  zh := h.zh
  gh := h.gh
  one := fun a => by
    have h1 := h.one a
    have h2 := cto_set a r i r[i] (some t) (List.getElem?_eq_getElem hi)
    simp only [cts] at h1
    simp only [ctq] at h2
    omega
  ow := fun a c => h.ow a (by
    have h2 := cto_set a r i r[i] (some t) (List.getElem?_eq_getElem hi)
    simp only [ctq] at h2
    simp only [cts]
    omega)
  stk := by cases h.stk with | cons _ q => exact q
  slot := fun j u ej => by
    by_cases hj : j = i
    · subst hj
      rw [List.getElem?_set_self hi] at ej
      cases ej
      exact ⟨v, by rw [List.getElem?_set_self (by rw [← h.len]; exact hi)], h.top⟩
    · rw [List.getElem?_set_ne (Ne.symm hj)] at ej
      obtain ⟨w, e1, q⟩ := h.slot j u ej
      exact ⟨w, by rw [List.getElem?_set_ne (Ne.symm hj)]; exact e1, q⟩
  len := by rw [List.length_set, List.length_set]; exact h.len
/-- .. where the very same object stands -/
theorem S3.back (h : S3 K G Z H (t :: ks) (v :: vs) r s) (hi : i < r.length) (e : s[i]? = some (some v)) : S3 K G Z H ks vs (r.set i (some t)) s := by
  have h1 := h.put hi
  have e2 : s.set i (some v) = s := by
    obtain ⟨hlt, e3⟩ := List.getElem?_eq_some_iff.mp e
    rw [← e3]
    exact List.set_getElem_self hlt
  rw [e2] at h1
  exact h1
/-- a slot forgotten -/
theorem S3.wipe (h : S3 K G Z H ks vs r s) : S3 K G Z H ks vs (r.set i none) (s.set i none) where
  zh := h.zh
  gh := h.gh
  one := fun a => by
    have h1 := h.one a
    by_cases hi : i < r.length
    · have h2 := cto_set a r i r[i] none (List.getElem?_eq_getElem hi)
      have h3 : ctq a none = 0 := rfl
      omega
    · rw [cto_set_ge a r i none (by omega)]; exact h1
  ow := fun a c => h.ow a (by
    by_cases hi : i < r.length
    · have h2 := cto_set a r i r[i] none (List.getElem?_eq_getElem hi)
      have h3 : ctq a none = 0 := rfl
      omega
    · rw [cto_set_ge a r i none (by omega)] at c; exact c)
  stk := h.stk
  slot := fun j u ej => by
    by_cases hj : j = i
    · subst hj
      have hi : j < r.length := by
        have := (List.getElem?_eq_some_iff.mp ej).1
        simpa using this
      rw [List.getElem?_set_self hi] at ej
      cases ej
    · rw [List.getElem?_set_ne (Ne.symm hj)] at ej
      obtain ⟨w, e1, q⟩ := h.slot j u ej
      exact ⟨w, by rw [List.getElem?_set_ne (Ne.symm hj)]; exact e1, q⟩
  len := by rw [List.length_set, List.length_set]; exact h.len
/-- a new object p is laid; what we know stays -/
theorem S3.laid {p : Addr} {o : HO} (h : S3 K G Z H ks vs r s) (hp : H p = none) : S3 K G Z (upd H p o) ks vs r s :=
  have zn : ∀ a u, H a = some u → a ≠ p := fun a u e q => by rw [q, hp] at e; cases e
  h.grow (Sub.refl _) (fun a c => by
    obtain ⟨xs, e⟩ := h.owned c
    rw [upd_ne (zn a _ e)]) (fun a u e => by rw [upd_ne (zn a u (h.zh a u e))]; exact h.zh a u e) (fun a u e => by rw [upd_ne (zn a u (h.gh a u e))]; exact h.gh a u e) fun a c => (h.ow a c).1
/-- .. and frozen -/
theorem S3.laidZ {p : Addr} {o : HO} (h : S3 K G Z H ks vs r s) (hp : H p = none) : Sub Z (upd Z p o) ∧ S3 K G (upd Z p o) (upd H p o) ks vs r s := by
  have hz : Z p = none := by
    cases q : Z p with
    | none => rfl
    | some u => have := h.zh p u q; rw [hp] at this; cases this
  have sz : Sub Z (upd Z p o) := fun a u e => by
    rw [upd_ne (fun q => by rw [q, hz] at e; cases e)]
    exact e
  have h1 := h.laid (o := o) hp
  refine ⟨sz, h1.grow sz (fun _ _ => rfl) (fun a u e => ?_) h1.gh fun a c => ?_⟩
  · by_cases q : a = p
    · subst q; rw [upd_same] at e ⊢; exact e
    · rw [upd_ne q] at e ⊢; exact h.zh a u e
  · obtain ⟨xs, e⟩ := h.owned c
    rw [upd_ne (fun q => by rw [q, hp] at e; cases e)]
    exact (h.ow a c).1
/-- several on top: as a list of one's own, newly laid -/
theorem S3.mkOwn {l : List T} {xs : List V} {p : Addr} (h : S3 K G Z H (l ++ ks) (xs ++ vs) r s) (hl : l.length = xs.length) (hp : H p = none) : S3 K G Z (upd H p (.lst xs)) (.own p l :: ks) (.ref p :: vs) r s := by
  have h1 := h.laid (o := .lst xs) hp
  have cp : cts p (l ++ ks) + cto p r = 0 := by
    by_cases c : 0 < cts p (l ++ ks) + cto p r
    · obtain ⟨ys, e⟩ := h.owned c
      rw [hp] at e; cases e
    · omega
  have split : ∀ (H2 : Hp) (l : List T) (xs : List V), l.length = xs.length → RTs K Z H2 (l ++ ks) (xs ++ vs) → RTs K Z H2 l xs ∧ RTs K Z H2 ks vs := by
    intro H2 l
    induction l with
    | nil => intro xs hl q; cases xs with | nil => exact ⟨.nil, q⟩ | cons _ _ => simp at hl
    | cons t l ih =>
      intro xs hl q
      cases xs with
      | nil => simp at hl
      | cons x xs =>
        cases q with
        | cons q1 q2 =>
          obtain ⟨z1, z2⟩ := ih xs (by simpa using hl) q2
          exact ⟨.cons q1 z1, z2⟩
  obtain ⟨q1, q2⟩ := split _ l xs hl h1.stk
  refine ⟨h1.zh, h1.gh, fun a => ?_, fun a c => ?_, .cons (.own upd_same q1) q2, h1.slot, h1.len⟩
  · have := h.one a
    rw [cts_append] at this cp
    simp only [cts, ct]
    by_cases e : p = a
    · subst e; simp; omega
    · simp only [if_neg e]; omega
  · simp only [cts, ct] at c
    by_cases e : p = a
    · subst e
      constructor
      · cases q : Z p with
        | none => rfl
        | some u => have := h.zh p u q; rw [hp] at this; cases this
      · cases q : G p with
        | none => rfl
        | some u => have := h.gh p u q; rw [hp] at this; cases this
    · simp only [if_neg e] at c
      exact h.ow a (by rw [cts_append]; omega)
end
end L3
namespace L3
open PySem PySem.Spec PyProof.Rows L2
/-- data is added; what is not ours is not made ours -/
structure Gr (G Z Z' : Hp) : Prop where
  sub : Sub Z Z'
  out : ∀ a o, G a = some o → Z a = none → Z' a = none
theorem Gr.refl (G Z : Hp) : Gr G Z Z := ⟨Sub.refl Z, fun _ _ _ h => h⟩
theorem Gr.trans {G A B C : Hp} (h : Gr G A B) (k : Gr G B C) : Gr G A C := ⟨h.sub.trans k.sub, fun a o e n => k.out a o e (h.out a o e n)⟩
section
variable {K : PySem.W.Frag} {G Z Z' H H' : Hp} {ks : List T} {vs : List V} {r r' : Rho} {s : L2.St} {t : T} {v : V} {i : Nat} {a : Addr}
theorem S3.freezeG (h : S3 K G Z H (t :: ks) (v :: vs) r s) (n : nv t = true) : ∃ Z', Gr G Z Z' ∧ S3 K G Z' H (.d (fz t) :: ks) (v :: vs) r s := by
  have sz : Sub Z (fun a => if 0 < ct a t then H a else Z a) := fun a o e => by
    show (if 0 < ct a t then H a else Z a) = some o
    split
    · exact h.zh a o e
    · exact e
  have hp : S3 K G (fun a => if 0 < ct a t then H a else Z a) H ks vs r s := h.pop.grow sz (fun _ _ => rfl) (fun a o e => by
      by_cases c : 0 < ct a t
      · simpa [c] using e
      · simp [c] at e; exact h.zh a o e) h.gh (fun a c => by
      have h1 := h.one a
      simp only [cts] at h1
      rw [if_neg (by omega)]
      exact (h.ow a (by simp only [cts]; omega)).1)
  refine ⟨_, ⟨sz, fun a o e n => ?_⟩, hp.pushD (rt_fz sz t v n (fun a c o e => by show (if 0 < ct a t then H a else Z a) = some o; rw [if_pos c]; exact e) h.top)⟩
  show (if 0 < ct a t then H a else Z a) = none
  by_cases c : 0 < ct a t
  · have := (h.ow a (by simp only [cts]; omega)).2
    rw [this] at e; cases e
  · rw [if_neg c]; exact n
theorem S3.laidG {p : Addr} {o : HO} (h : S3 K G Z H ks vs r s) (hp : H p = none) : Gr G Z (upd Z p o) ∧ S3 K G (upd Z p o) (upd H p o) ks vs r s := by
  obtain ⟨h1, h2⟩ := h.laidZ (o := o) hp
  refine ⟨⟨h1, fun a u e n => ?_⟩, h2⟩
  rw [upd_ne (fun q => by rw [q] at e; have := h.gh p u e; rw [hp] at this; cases this)]
  exact n
end
abbrev TE3 := Rho → (T → Rho → Prop) → Prop
abbrev TT3 := Rho → (Bool → Rho → Prop) → Prop
/-- what a value read is, as long as data is only added -/
def Pv (K : PySem.W.Frag) (Z : Hp) (r : Rho) (s : L2.St) (t : T) (v : V) : Prop :=
  match t with
  | .d x => Dq K Z v x
  | .v x => v = x
  | .sc a ns => v = .ref a ∧ SqL K Z a (ns.map V.int)
  | t => ∀ G Z' H ks vs, Sub Z Z' → S3 K G Z' H ks vs r s → RT K Z' H t v
/-- an expression whose value is put on top (a new list, or data) -/
structure P3 (X : Cx) (e : Expr) (t : TE3) : Prop where
  ex : ∃ te : TE, PE X e te ∧ ∀ (G Z H : Hp) (ks : List T) (vs : List V) (r : Rho) (s : L2.St) (Q : VK) (Q3 : T → Rho → Prop), S3 X.K G Z H ks vs r s → t r Q3 →
    (∀ Z' H' x v r', Gr G Z Z' → S3 X.K G Z' H' (x :: ks) (v :: vs) r' s → Q3 x r' → Q v H') → te s H Q
/-- an expression whose value is read -/
structure R3 (X : Cx) (e : Expr) (t : TE3) : Prop where
  ex : ∃ te : TE, PE X e te ∧ ∀ (G Z H : Hp) (ks : List T) (vs : List V) (r : Rho) (s : L2.St) (Q : VK) (Q3 : T → Rho → Prop), S3 X.K G Z H ks vs r s → t r Q3 →
    (∀ Z' H' x v r', Gr G Z Z' → S3 X.K G Z' H' ks vs r' s → Pv X.K Z' r' s x v → Q3 x r' → Q v H') → te s H Q
/-- a test -/
structure T3 (X : Cx) (e : Expr) (t : TT3) : Prop where
  ex : ∃ te : TT, PT X e te ∧ ∀ (G Z H : Hp) (ks : List T) (vs : List V) (r : Rho) (s : L2.St) (Q : Bool → Hp → Prop) (Q3 : Bool → Rho → Prop), S3 X.K G Z H ks vs r s → t r Q3 →
    (∀ Z' H' b r', Gr G Z Z' → S3 X.K G Z' H' ks vs r' s → Q3 b r' → Q b H') → te s H Q
/-- .. whatever its whole is (and, or) -/
structure W3 (X : Cx) (e : Expr) (t : TT3) : Prop where
  ex : ∃ te : TT, PW X e te ∧ ∀ (G Z H : Hp) (ks : List T) (vs : List V) (r : Rho) (s : L2.St) (Q : Bool → Hp → Prop) (Q3 : Bool → Rho → Prop), S3 X.K G Z H ks vs r s → t r Q3 →
    (∀ Z' H' b r', Gr G Z Z' → S3 X.K G Z' H' ks vs r' s → Q3 b r' → Q b H') → te s H Q
section
variable {K : PySem.W.Frag} {G Z Z' H H' : Hp} {ks : List T} {vs : List V} {r r' : Rho} {s : L2.St} {t : T} {v : V} {i : Nat} {a : Addr}
theorem Pv.keep (h : Pv K Z r s t v) (z : Sub Z Z') : Pv K Z' r s t v := by
  cases t with
  | d x => exact dp_mono z x v h
  | v x => exact h
  | sc a ns => exact ⟨h.1, z.L h.2⟩
  | own a l => exact fun G Z2 H ks vs q => h G Z2 H ks vs (z.trans q)
  | tp l => exact fun G Z2 H ks vs q => h G Z2 H ks vs (z.trans q)
theorem Pv.now (h : Pv K Z r s t v) (q : S3 K G Z H ks vs r s) : RT K Z H t v := by
  cases t with
  | d x => exact .d h
  | v x => rw [show v = x from h]; exact .v
  | sc a ns => rw [show v = .ref a from h.1]; exact .sc h.2
  | own a l => exact h G Z H ks vs (Sub.refl _) q
  | tp l => exact h G Z H ks vs (Sub.refl _) q
/-- a read value as data, over the whole heap -/
theorem Pv.data (h : Pv K Z r s t v) (q : S3 K G Z H ks vs r s) (n : nv t = true) : Dq K H v (fz t) := rt_fz q.zh t v n (fun _ _ _ e => e) (h.now q)
theorem Pv.int {i : Int} (h : Pv K Z r s (.d (.int i)) v) : v = .int i := by
  cases (show Dq K Z v (.int i) from h)
  rfl
theorem Pv.bool {b : Bool} (h : Pv K Z r s (.d (.bool b)) v) : v = .bl b := by
  cases (show Dq K Z v (.bool b) from h)
  rfl
theorem Pv.str {x : Str} (h : Pv K Z r s (.d (.str x)) v) : v = .str x := by
  cases (show Dq K Z v (.str x) from h)
  rfl
end
/-- the first of two values read, behind the second one -/
structure Pv2 (K : PySem.W.Frag) (Z : Hp) (r1 r2 : Rho) (s : L2.St) (t : T) (v : V) : Prop where
  dat : ∀ x, t = .d x → Dq K Z v x
  val : ∀ x, t = .v x → v = x
  scr : ∀ a ns, t = .sc a ns → v = .ref a ∧ SqL K Z a (ns.map V.int)
  same : r2 = r1 → Pv K Z r2 s t v
theorem Pv.two {K : PySem.W.Frag} {Z Z' : Hp} {r1 r2 : Rho} {s : L2.St} {t : T} {v : V} (h : Pv K Z r1 s t v) (z : Sub Z Z') : Pv2 K Z' r1 r2 s t v :=
  ⟨fun x e => by subst e; exact dp_mono z x v h, fun x e => by subst e; exact h, fun a ns e => by subst e; exact ⟨h.1, z.L h.2⟩, fun e => by subst e; exact h.keep z⟩
theorem Pv2.int {K : PySem.W.Frag} {Z : Hp} {r1 r2 : Rho} {s : L2.St} {i : Int} {v : V} (h : Pv2 K Z r1 r2 s (.d (.int i)) v) : v = .int i := by
  cases h.dat _ rfl
  rfl
/-! ### what a value is -/
def asI (t : T) (k : Int → Prop) : Prop := match t with | .d (.int i) => k i | _ => False
def asB (t : T) (k : Bool → Prop) : Prop := match t with | .d (.bool b) => k b | _ => False
def asS (t : T) (k : Str → Prop) : Prop := match t with | .d (.str x) => k x | _ => False
theorem asI_of {t : T} {k : Int → Prop} (h : asI t k) : ∃ i, t = .d (.int i) ∧ k i := by
  unfold asI at h
  split at h
  · exact ⟨_, rfl, h⟩
  · exact h.elim
theorem asB_of {t : T} {k : Bool → Prop} (h : asB t k) : ∃ i, t = .d (.bool i) ∧ k i := by
  unfold asB at h
  split at h
  · exact ⟨_, rfl, h⟩
  · exact h.elim
theorem asS_of {t : T} {k : Str → Prop} (h : asS t k) : ∃ i, t = .d (.str i) ∧ k i := by
  unfold asS at h
  split at h
  · exact ⟨_, rfl, h⟩
  · exact h.elim
section
variable {X : Cx} {e a b c : Expr} {t ta tb tc : TE3} {pos : Pos}
/-! ### from one reading to the other -/
/-- data read is data on top -/
def xD (t : TE3) : TE3 := fun r Q => t r fun x r' => match x with | .d y => Q (.d y) r' | .v y => Q (.v y) r' | .sc a ns => Q (.sc a ns) r' | _ => False
theorem p3 (h : R3 X e t) : P3 X e (xD t) := by
  obtain ⟨te, he, hs⟩ := h.ex
  refine ⟨te, he, fun G Z H ks vs r s Q Q3 st ht k => hs G Z H ks vs r s Q _ st ht fun Z' H' x v r' gr st' pv q => ?_⟩
  cases x with
  | d y => exact k Z' H' (.d y) v r' gr (st'.pushD pv) q
  | v y => exact k Z' H' (.v y) v r' gr (st'.push (fun _ => rfl) (by rw [show v = y from pv]; exact .v)) q
  | sc a ns => exact k Z' H' (.sc a ns) v r' gr (st'.push (fun _ => rfl) (by rw [show v = .ref a from pv.1]; exact .sc pv.2)) q
  | own a l => exact q.elim
  | tp l => exact q.elim
/-- what is on top is frozen and read -/
def xFz (t : TE3) : TE3 := fun r Q => t r fun x r' => match x with | .d y => Q (.d y) r' | .v y => Q (.v y) r' | .sc a ns => Q (.sc a ns) r' | x => nv x = true ∧ Q (.d (fz x)) r'
theorem r3 (h : P3 X e t) : R3 X e (xFz t) := by
  obtain ⟨te, he, hs⟩ := h.ex
  refine ⟨te, he, fun G Z H ks vs r s Q Q3 st ht k => hs G Z H ks vs r s Q _ st ht fun Z' H' x v r' gr st' q => ?_⟩
  have fin : ∀ x : T, nv x = true → S3 X.K G Z' H' (x :: ks) (v :: vs) r' s → Q3 (.d (fz x)) r' → Q v H' := fun x n st' q => by
    obtain ⟨Z2, g2, st2⟩ := st'.freezeG n
    have h := st2.top
    cases h with
    | d h => exact k Z2 H' (.d (fz x)) v r' (gr.trans g2) st2.pop h q
  cases x with
  | d y => exact fin (.d y) rfl st' q
  | v y =>
    have h := st'.top
    have e1 : v = y := by cases h; rfl
    exact k Z' H' (.v y) v r' gr st'.pop e1 q
  | sc a ns =>
    have h := st'.top
    cases h with
    | sc h => exact k Z' H' (.sc a ns) _ r' gr st'.pop ⟨rfl, h⟩ q
  | own a l => exact fin _ q.1 st' q.2
  | tp l => exact fin _ q.1 st' q.2
/-! ### names, constants -/
def xView (i : Nat) : TE3 := fun r Q => match r[i]? with | some (some t) => Q t r | _ => False
theorem view_of {i : Nat} {r : Rho} {Q : T → Rho → Prop} (h : xView i r Q) : ∃ t, r[i]? = some (some t) ∧ Q t r := by
  unfold xView at h
  split at h
  · exact ⟨_, by assumption, h⟩
  · exact h.elim
theorem r3_name (i : Nat) {x : Str} (hN : X.N[i]? = some x := by rfl) (hv : Vis X.env.scope x := by first | exact Or.inl rfl | exact Or.inr (Or.inl rfl) | exact Or.inr (Or.inr rfl)) (hd : (x == ("__debug__" : Str)) = false := by decide)
    (hcd : (x == ("__classdict__" : Str)) = false := by decide) : R3 X (.Name x pos) (xView i) := by
  refine ⟨tVar i, pe_var hN hv hd hcd, fun G Z H ks vs r s Q Q3 st ht k => ?_⟩
  obtain ⟨t, e, q⟩ := view_of ht
  obtain ⟨v, ev, rt⟩ := st.slot i t e
  refine ⟨v, ev, k Z H t v r (Gr.refl _ _) st ?_ q⟩
  have gen : ∀ G Z' H ks vs, Sub Z Z' → S3 X.K G Z' H ks vs r s → RT X.K Z' H t v := fun G Z' H ks vs _ st' => by
    obtain ⟨v', ev', rt'⟩ := st'.slot i t e
    rw [ev] at ev'; cases ev'
    exact rt'
  cases t with
  | d x => cases rt with | d h => exact h
  | v x => cases rt; rfl
  | sc a ns => cases rt with | sc h => exact ⟨rfl, h⟩
  | own a l => exact gen
  | tp l => exact gen
/-- a name whose own list is moved away -/
def xMove (i : Nat) : TE3 := fun r Q => match r[i]? with | some (some (.d x)) => Q (.d x) r | some (some (.v x)) => Q (.v x) r | some (some (.sc a ns)) => Q (.sc a ns) r | some (some t) => Q t (r.set i none) | _ => False
theorem p3_move (i : Nat) {x : Str} (hN : X.N[i]? = some x := by rfl) (hv : Vis X.env.scope x := by first | exact Or.inl rfl | exact Or.inr (Or.inl rfl) | exact Or.inr (Or.inr rfl)) (hd : (x == ("__debug__" : Str)) = false := by decide)
    (hcd : (x == ("__classdict__" : Str)) = false := by decide) : P3 X (.Name x pos) (xMove i) := by
  refine ⟨tVar i, pe_var hN hv hd hcd, fun G Z H ks vs r s Q Q3 st ht k => ?_⟩
  unfold xMove at ht
  split at ht
  · rename_i x e
    obtain ⟨v, ev, rt⟩ := st.slot i _ e
    exact ⟨v, ev, k Z H _ v r (Gr.refl _ _) (st.push (fun _ => rfl) rt) ht⟩
  · rename_i x e
    obtain ⟨v, ev, rt⟩ := st.slot i _ e
    exact ⟨v, ev, k Z H _ v r (Gr.refl _ _) (st.push (fun _ => rfl) rt) ht⟩
  · rename_i a ns e
    obtain ⟨v, ev, rt⟩ := st.slot i _ e
    exact ⟨v, ev, k Z H _ v r (Gr.refl _ _) (st.push (fun _ => rfl) rt) ht⟩
  · rename_i t _ _ _ e
    obtain ⟨v, ev, st'⟩ := st.take e
    exact ⟨v, ev, k Z H _ v _ (Gr.refl _ _) st' ht⟩
  · exact ht.elim
def xC (x : PyData) : TE3 := fun r Q => Q (.d x) r
theorem r3_int {i : Int} {j} : R3 X (.Constant (.int i) j pos) (xC (.int i)) := ⟨_, pe_int, fun G Z H ks vs r s Q Q3 st ht k => k Z H (.d (.int i)) _ r (Gr.refl _ _) st (Dq.int i) ht⟩
theorem r3_bool {i : Bool} {j} : R3 X (.Constant (.bool i) j pos) (xC (.bool i)) := ⟨_, pe_bl, fun G Z H ks vs r s Q Q3 st ht k => k Z H (.d (.bool i)) _ r (Gr.refl _ _) st (Dq.bl i) ht⟩
theorem r3_none {j} : R3 X (.Constant .none j pos) (xC .none) := ⟨_, pe_non, fun G Z H ks vs r s Q Q3 st ht k => k Z H (.d .none) _ r (Gr.refl _ _) st Dq.non ht⟩
theorem r3_str {i : Str} {j} : R3 X (.Constant (.str i) j pos) (xC (.str i)) := ⟨_, pe_str, fun G Z H ks vs r s Q Q3 st ht k => k Z H (.d (.str i)) _ r (Gr.refl _ _) st (Dq.str i) ht⟩
/-- a constant of the module -/
theorem r3_globI {x : Str} {i : Int} {u : Value} (hg : Gl X x) (hm : X.mg x = some u) (rv : RelV (.int i) u) (hd : (x == ("__debug__" : Str)) = false := by decide) : R3 X (.Name x pos) (xC (.int i)) :=
  ⟨_, pe_glob hg hm rv hd, fun G Z H ks vs r s Q Q3 st ht k => k Z H (.d (.int i)) _ r (Gr.refl _ _) st (Dq.int i) ht⟩
/-! ### two operands -/
/-- what is made of two values read: the state ahead of the second one's reading, both, the state -/
abbrev C2 := Rho → T → T → TE3
def x2 (c : C2) (ta tb : TE3) : TE3 := fun r Q => ta r fun x r1 => tb r1 fun y r2 => c r1 x y r2 Q
def Con2 (X : Cx) (rd : R2) (c : C2) : Prop := ∀ (G Z H : Hp) (ks : List T) (vs : List V) (r1 r : Rho) (s : L2.St) (x y : V) (tx ty : T) (Q : VK) (Q3 : T → Rho → Prop), S3 X.K G Z H ks vs r s → Pv2 X.K Z r1 r s tx x → Pv X.K Z r s ty y → c r1 tx ty r Q3 →
  (∀ Z' H' t v r', Gr G Z Z' → S3 X.K G Z' H' ks vs r' s → Pv X.K Z' r' s t v → Q3 t r' → Q v H') → rd x y H Q
def Con2P (X : Cx) (rd : R2) (c : C2) : Prop := ∀ (G Z H : Hp) (ks : List T) (vs : List V) (r1 r : Rho) (s : L2.St) (x y : V) (tx ty : T) (Q : VK) (Q3 : T → Rho → Prop), S3 X.K G Z H ks vs r s → Pv2 X.K Z r1 r s tx x → Pv X.K Z r s ty y → c r1 tx ty r Q3 →
  (∀ Z' H' t v r', Gr G Z Z' → S3 X.K G Z' H' (t :: ks) (v :: vs) r' s → Q3 t r' → Q v H') → rd x y H Q
theorem two_run {rd : R2} {c : C2} (hc : Con2 X rd c) {tea teb : TE} (ha : ∀ (G Z H : Hp) (ks : List T) (vs : List V) (r : Rho) (s : L2.St) (Q : VK) (Q3 : T → Rho → Prop), S3 X.K G Z H ks vs r s → ta r Q3 →
    (∀ Z' H' x v r', Gr G Z Z' → S3 X.K G Z' H' ks vs r' s → Pv X.K Z' r' s x v → Q3 x r' → Q v H') → tea s H Q)
    (hb : ∀ (G Z H : Hp) (ks : List T) (vs : List V) (r : Rho) (s : L2.St) (Q : VK) (Q3 : T → Rho → Prop), S3 X.K G Z H ks vs r s → tb r Q3 →
    (∀ Z' H' x v r', Gr G Z Z' → S3 X.K G Z' H' ks vs r' s → Pv X.K Z' r' s x v → Q3 x r' → Q v H') → teb s H Q) :
    ∀ (G Z H : Hp) (ks : List T) (vs : List V) (r : Rho) (s : L2.St) (Q : VK) (Q3 : T → Rho → Prop), S3 X.K G Z H ks vs r s → x2 c ta tb r Q3 →
    (∀ Z' H' x v r', Gr G Z Z' → S3 X.K G Z' H' ks vs r' s → Pv X.K Z' r' s x v → Q3 x r' → Q v H') → tOp rd tea teb s H Q :=
  fun G Z H ks vs r s Q Q3 st ht k => ha G Z H ks vs r s _ _ st ht fun Z1 H1 x v r1 g1 st1 p1 q1 => hb G Z1 H1 ks vs r1 s _ _ st1 q1 fun Z2 H2 y u r2 g2 st2 p2 q2 =>
    hc G Z2 H2 ks vs r1 r2 s v u x y Q Q3 st2 (p1.two g2.sub) p2 q2 fun Z3 H3 t w r3 g3 => k Z3 H3 t w r3 ((g1.trans g2).trans g3)
theorem r3_op {op : Operator} {rd : R2} {c : C2} (ho : OpR X (binaryOp op) rd) (hc : Con2 X rd c) (ha : R3 X a ta) (hb : R3 X b tb) : R3 X (.BinOp a op b pos) (x2 c ta tb) := by
  obtain ⟨tea, ea, sa⟩ := ha.ex
  obtain ⟨teb, eb, sb⟩ := hb.ex
  exact ⟨_, pe_op ho ea eb, two_run hc sa sb⟩
theorem p3_op {op : Operator} {rd : R2} {c : C2} (ho : OpR X (binaryOp op) rd) (hc : Con2P X rd c) (ha : R3 X a ta) (hb : R3 X b tb) : P3 X (.BinOp a op b pos) (x2 c ta tb) := by
  obtain ⟨tea, ea, sa⟩ := ha.ex
  obtain ⟨teb, eb, sb⟩ := hb.ex
  exact ⟨_, pe_op ho ea eb, fun G Z H ks vs r s Q Q3 st ht k => sa G Z H ks vs r s _ _ st ht fun Z1 H1 x v r1 g1 st1 p1 q1 => sb G Z1 H1 ks vs r1 s _ _ st1 q1 fun Z2 H2 y u r2 g2 st2 p2 q2 =>
    hc G Z2 H2 ks vs r1 r2 s v u x y Q Q3 st2 (p1.two g2.sub) p2 q2 fun Z3 H3 t w r3 g3 => k Z3 H3 t w r3 ((g1.trans g2).trans g3)⟩
theorem r3_cmp {op : CmpOp} {rd : R2} {c : C2} (ho : OpR X (compareOp op) rd) (hc : Con2 X rd c) (ha : R3 X a ta) (hb : R3 X b tb) (hm : behindInMarks op b = false) : R3 X (.Compare a [op] [b] pos) (x2 c ta tb) := by
  obtain ⟨tea, ea, sa⟩ := ha.ex
  obtain ⟨teb, eb, sb⟩ := hb.ex
  exact ⟨_, pe_cmpR ho ea eb hm, two_run hc sa sb⟩
/-- a value that is a truth, as a test -/
def xTest (t : TE3) : TT3 := fun r Q => t r fun x r' => asB x fun b => Q b r'
theorem t3_cmp {op : CmpOp} {rd : R2} {c : C2} (ho : OpR X (compareOp op) rd) (hc : Con2 X rd c) (ha : R3 X a ta) (hb : R3 X b tb) (hm : behindInMarks op b = false) : T3 X (.Compare a [op] [b] pos) (xTest (x2 c ta tb)) := by
  obtain ⟨tea, ea, sa⟩ := ha.ex
  obtain ⟨teb, eb, sb⟩ := hb.ex
  refine ⟨_, pt_cmpR ho ea eb hm, fun G Z H ks vs r s Q Q3 st ht k => two_run hc sa sb G Z H ks vs r s _ _ st ht fun Z' H' x v r' g st' pv q => ?_⟩
  obtain ⟨b, rfl, q⟩ := asB_of q
  exact ⟨b, pv.bool, k Z' H' b r' g st' q⟩
theorem t3_val (h : R3 X e t) (he : ∀ whole, isTrue e X.env whole = (do let v ← whole; standAt e.pos; holding [v] (truthy v)) := by intro _; rfl) : T3 X e (xTest t) := by
  obtain ⟨te, ea, sa⟩ := h.ex
  refine ⟨_, pt_val ea he, fun G Z H ks vs r s Q Q3 st ht k => sa G Z H ks vs r s _ _ st ht fun Z' H' x v r' g st' pv q => ?_⟩
  obtain ⟨b, rfl, q⟩ := asB_of q
  exact ⟨b, pv.bool, k Z' H' b r' g st' q⟩
/-- two ints -/
def cI (C : Int → Int → Prop) (g : Int → Int → PyData) : C2 := fun _ x y r Q => asI x fun i => asI y fun j => C i j ∧ Q (.d (g i j)) r
def isScal : PyData → V → Prop
  | .int i, v => v = .int i
  | .bool b, v => v = .bl b
  | _, _ => False
theorem isScal.dp {K : PySem.W.Frag} {Z : Hp} {x : PyData} {v : V} (h : isScal x v) : Dq K Z v x := by
  cases x with
  | int i => rw [show v = .int i from h]; exact .int i
  | bool b => rw [show v = .bl b from h]; exact .bl b
  | none => exact False.elim h
  | str _ => exact False.elim h
  | list _ => exact False.elim h
  | tuple _ => exact False.elim h
  | dict _ => exact False.elim h
theorem con_I {C C' : Int → Int → Prop} {g : Int → Int → PyData} {g' : Int → Int → V} (hC : ∀ i j, C i j → C' i j) (hg : ∀ i j, C i j → isScal (g i j) (g' i j)) : Con2 X (rI C' g') (cI C g) :=
  fun G Z H ks vs r1 r s x y tx ty Q Q3 st px py hc k => by
    obtain ⟨i, rfl, h1⟩ := asI_of hc
    obtain ⟨j, rfl, h2, q⟩ := asI_of h1
    exact ⟨i, j, px.int, py.int, hC i j h2, k Z H (.d (g i j)) _ r (Gr.refl _ _) st (hg i j h2).dp q⟩
def cI0 (g : Int → Int → PyData) : C2 := fun _ x y r Q => asI x fun i => asI y fun j => Q (.d (g i j)) r
theorem con_I0 {g : Int → Int → PyData} {g' : Int → Int → V} (hg : ∀ i j, isScal (g i j) (g' i j)) : Con2 X (rI0 g') (cI0 g) :=
  fun G Z H ks vs r1 r s x y tx ty Q Q3 st px py hc k => by
    obtain ⟨i, rfl, h1⟩ := asI_of hc
    obtain ⟨j, rfl, q⟩ := asI_of h1
    exact ⟨i, j, px.int, py.int, k Z H (.d (g i j)) _ r (Gr.refl _ _) st (hg i j).dp q⟩
/-- two factors: one is small, or both are not too long -/
def MulOk (i j : Int) : Prop := CMul i j ∨ CMulW i j
theorem MulOk.ok {i j : Int} (h : MulOk i j) : IntMulOk i j := h.elim CMul.ok CMulW.ok
theorem op_mul3 : OpR X (binaryOp .Mult) (rI MulOk fun i j => .int (i * j)) := opI fun _ _ _ _ _ _ _ hc q => mul_int q hc.ok
theorem r3_add (ha : R3 X a ta) (hb : R3 X b tb) : R3 X (.BinOp a .Add b pos) (x2 (cI0 fun i j => .int (i + j)) ta tb) := r3_op op_add (con_I0 fun _ _ => rfl) ha hb
theorem r3_sub (ha : R3 X a ta) (hb : R3 X b tb) : R3 X (.BinOp a .Sub b pos) (x2 (cI0 fun i j => .int (i - j)) ta tb) := r3_op op_sub (con_I0 fun _ _ => rfl) ha hb
theorem r3_mul (ha : R3 X a ta) (hb : R3 X b tb) : R3 X (.BinOp a .Mult b pos) (x2 (cI MulOk fun i j => .int (i * j)) ta tb) := r3_op op_mul3 (con_I (fun _ _ h => h) fun _ _ _ => rfl) ha hb
theorem r3_fdiv (ha : R3 X a ta) (hb : R3 X b tb) : R3 X (.BinOp a .FloorDiv b pos) (x2 (cI CDivW fun i j => .int (i / j)) ta tb) := r3_op op_fdivW (con_I (fun _ _ h => h) fun _ _ _ => rfl) ha hb
theorem r3_mod (ha : R3 X a ta) (hb : R3 X b tb) : R3 X (.BinOp a .Mod b pos) (x2 (cI (fun _ j => 0 < j) fun i j => .int (i % j)) ta tb) := r3_op op_mod (con_I (fun _ _ h => h) fun _ _ _ => rfl) ha hb
theorem r3_pow (ha : R3 X a ta) (hb : R3 X b tb) : R3 X (.BinOp a .Pow b pos) (x2 (cI CPow fun i j => .int (i ^ j.toNat)) ta tb) := r3_op op_pow (con_I (fun _ _ h => h) fun _ _ _ => rfl) ha hb
theorem con_cmp {p : Int → Int → Bool} : Con2 X (rI0 fun i j => .bl (p i j)) (cI0 fun i j => .bool (p i j)) := con_I0 fun _ _ => rfl
theorem r3_le (ha : R3 X a ta) (hb : R3 X b tb) : R3 X (.Compare a [.LtE] [b] pos) (x2 (cI0 fun i j => .bool (decide (i ≤ j))) ta tb) := r3_cmp op_le con_cmp ha hb (nomark _)
theorem r3_gt (ha : R3 X a ta) (hb : R3 X b tb) : R3 X (.Compare a [.Gt] [b] pos) (x2 (cI0 fun i j => .bool (decide (j < i))) ta tb) := r3_cmp op_gt con_cmp ha hb (nomark _)
theorem t3_lt (ha : R3 X a ta) (hb : R3 X b tb) : T3 X (.Compare a [.Lt] [b] pos) (xTest (x2 (cI0 fun i j => .bool (decide (i < j))) ta tb)) := t3_cmp op_lt con_cmp ha hb (nomark _)
theorem t3_le (ha : R3 X a ta) (hb : R3 X b tb) : T3 X (.Compare a [.LtE] [b] pos) (xTest (x2 (cI0 fun i j => .bool (decide (i ≤ j))) ta tb)) := t3_cmp op_le con_cmp ha hb (nomark _)
theorem t3_gt (ha : R3 X a ta) (hb : R3 X b tb) : T3 X (.Compare a [.Gt] [b] pos) (xTest (x2 (cI0 fun i j => .bool (decide (j < i))) ta tb)) := t3_cmp op_gt con_cmp ha hb (nomark _)
theorem t3_ge (ha : R3 X a ta) (hb : R3 X b tb) : T3 X (.Compare a [.GtE] [b] pos) (xTest (x2 (cI0 fun i j => .bool (decide (j ≤ i))) ta tb)) := t3_cmp op_ge con_cmp ha hb (nomark _)
/-- == of data (lists of one's own are read) -/
def asF (r1 r : Rho) (t : T) (k : PyData → Prop) : Prop := match t with | .d x => k x | .v _ => False | .sc _ _ => False | t => r = r1 ∧ nv t = true ∧ k (fz t)
theorem asF_of {K : PySem.W.Frag} {G Z H : Hp} {ks : List T} {vs : List V} {r1 r : Rho} {s : L2.St} {t : T} {v : V} {k : PyData → Prop} (h : asF r1 r t k) (st : S3 K G Z H ks vs r s) (p : Pv2 K Z r1 r s t v) : ∃ x, (x.canLay0 = true → Dp K H v x) ∧ k x := by
  cases t with
  | d x => exact ⟨x, fun c => dq_dp _ _ c (dp_mono st.zh x v (p.dat x rfl)), h⟩
  | v x => exact h.elim
  | sc _ _ => exact h.elim
  | own a l => exact ⟨_, fun c => dq_dp _ _ c ((p.same h.1).data st h.2.1), h.2.2⟩
  | tp l => exact ⟨_, fun c => dq_dp _ _ c ((p.same h.1).data st h.2.1), h.2.2⟩
theorem Pv.self {K : PySem.W.Frag} {Z : Hp} {r : Rho} {s : L2.St} {t : T} {v : V} (h : Pv K Z r s t v) : Pv2 K Z r r s t v := h.two (Sub.refl _)
def cEq (g : Bool → Bool) : C2 := fun r1 x y r Q => asF r1 r x fun d => asF r r y fun e => SeqAt.shaped d = true ∧ SeqAt.shaped e = true ∧ Q (.d (.bool (g (PyData.eqv d e)))) r
theorem con_eq : Con2 X (rEqD X.K) (cEq fun b => b) := fun G Z H ks vs r1 r s x y tx ty Q Q3 st px py hc k => by
  obtain ⟨d, hd, hc⟩ := asF_of hc st px
  obtain ⟨e, he, h1, h2, q⟩ := asF_of hc st py.self
  exact ⟨d, e, hd (SeqAt.canLay_of_shaped h1), he (SeqAt.canLay_of_shaped h2), h1, h2, k Z H (.d (.bool _)) _ r (Gr.refl _ _) st (Dq.bl _) q⟩
theorem con_ne : Con2 X (rNeD X.K) (cEq fun b => !b) := fun G Z H ks vs r1 r s x y tx ty Q Q3 st px py hc k => by
  obtain ⟨d, hd, hc⟩ := asF_of hc st px
  obtain ⟨e, he, h1, h2, q⟩ := asF_of hc st py.self
  exact ⟨d, e, hd (SeqAt.canLay_of_shaped h1), he (SeqAt.canLay_of_shaped h2), h1, h2, k Z H (.d (.bool _)) _ r (Gr.refl _ _) st (Dq.bl _) q⟩
theorem r3_eq (hu : X.A.units + 64 < cLine) (ha : R3 X a ta) (hb : R3 X b tb) : R3 X (.Compare a [.Eq] [b] pos) (x2 (cEq fun b => b) ta tb) := r3_cmp (op_eqD hu) con_eq ha hb (nomark _)
theorem t3_eq (hu : X.A.units + 64 < cLine) (ha : R3 X a ta) (hb : R3 X b tb) : T3 X (.Compare a [.Eq] [b] pos) (xTest (x2 (cEq fun b => b) ta tb)) := t3_cmp (op_eqD hu) con_eq ha hb (nomark _)
theorem t3_ne (hu : X.A.units + 64 < cLine) (ha : R3 X a ta) (hb : R3 X b tb) : T3 X (.Compare a [.NotEq] [b] pos) (xTest (x2 (cEq fun b => !b) ta tb)) := t3_cmp (op_neD hu) con_ne ha hb (nomark _)
/-- == of two ints, without further ado -/
def cEqI (g : Bool → Bool) : C2 := fun _ x y r Q => asI x fun i => asI y fun j => Q (.d (.bool (g (decide (i = j))))) r
theorem con_eqI : Con2 X rEq (cEqI fun b => b) := fun G Z H ks vs r1 r s x y tx ty Q Q3 st px py hc k => by
  obtain ⟨i, rfl, hc1⟩ := asI_of hc
  obtain ⟨j, rfl, q⟩ := asI_of hc1
  cases px.int
  cases py.int
  refine ⟨rfl, k Z H _ _ r (Gr.refl _ _) st ?_ q⟩
  have e : decide (V.int i = V.int j) = decide (i = j) := by
    rw [dec_int]; exact Bool.beq_eq_decide_eq i j
  show Dq X.K Z _ _
  rw [e]
  exact .bl _
theorem con_neI : Con2 X rNe (cEqI fun b => !b) := fun G Z H ks vs r1 r s x y tx ty Q Q3 st px py hc k => by
  obtain ⟨i, rfl, hc1⟩ := asI_of hc
  obtain ⟨j, rfl, q⟩ := asI_of hc1
  cases px.int
  cases py.int
  refine ⟨rfl, k Z H _ _ r (Gr.refl _ _) st ?_ q⟩
  have e : decide (V.int i = V.int j) = decide (i = j) := by
    rw [dec_int]; exact Bool.beq_eq_decide_eq i j
  show Dq X.K Z _ _
  rw [e]
  exact .bl _
theorem t3_eqI (ha : R3 X a ta) (hb : R3 X b tb) : T3 X (.Compare a [.Eq] [b] pos) (xTest (x2 (cEqI fun b => b) ta tb)) := t3_cmp op_eq con_eqI ha hb (nomark _)
theorem t3_neI (ha : R3 X a ta) (hb : R3 X b tb) : T3 X (.Compare a [.NotEq] [b] pos) (xTest (x2 (cEqI fun b => !b) ta tb)) := t3_cmp op_ne con_neI ha hb (nomark _)
/-- is None -/
def isN : T → Bool
  | .d .none => true
  | .v x => decide (x = V.non)
  | _ => false
def plainT : T → Prop
  | .d _ => True
  | .v _ => True
  | _ => False
def cIsN (g : Bool → Bool) : C2 := fun _ x y r Q => (match y with | .d .none => plainT x ∧ Q (.d (.bool (g (isN x)))) r | _ => False)
theorem cIsN_of {g : Bool → Bool} {r1 r : Rho} {x y : T} {Q : T → Rho → Prop} (h : cIsN g r1 x y r Q) : y = .d .none ∧ plainT x ∧ Q (.d (.bool (g (isN x)))) r := by
  unfold cIsN at h
  split at h
  · exact ⟨rfl, h⟩
  · exact h.elim
theorem isN_of {K : PySem.W.Frag} {Z : Hp} {r1 r : Rho} {s : L2.St} {t : T} {v : V} (h : plainT t) (p : Pv2 K Z r1 r s t v) : decide (v = V.non) = isN t := by
  cases t with
  | v x => rw [p.val x rfl]; rfl
  | d x =>
    have q := p.dat x rfl
    cases q <;> rfl
  | sc _ _ => exact h.elim
  | own _ _ => exact h.elim
  | tp _ => exact h.elim
theorem con_isN : Con2 X (fun x y H Q => y = .non ∧ Q (.bl (decide (x = .non))) H) (cIsN fun b => b) := fun G Z H ks vs r1 r s x y tx ty Q Q3 st px py hc k => by
  obtain ⟨rfl, h1, q⟩ := cIsN_of hc
  refine ⟨by cases (show Dq X.K Z y .none from py); rfl, k Z H (.d (.bool _)) _ r (Gr.refl _ _) st ?_ q⟩
  show Dq X.K Z _ _
  rw [isN_of h1 px]
  exact .bl _
theorem con_notN : Con2 X (fun x y H Q => y = .non ∧ Q (.bl (!decide (x = .non))) H) (cIsN fun b => !b) := fun G Z H ks vs r1 r s x y tx ty Q Q3 st px py hc k => by
  obtain ⟨rfl, h1, q⟩ := cIsN_of hc
  refine ⟨by cases (show Dq X.K Z y .none from py); rfl, k Z H (.d (.bool _)) _ r (Gr.refl _ _) st ?_ q⟩
  show Dq X.K Z _ _
  rw [isN_of h1 px]
  exact .bl _
theorem t3_isN (ha : R3 X a ta) (hb : R3 X b tb) : T3 X (.Compare a [.Is] [b] pos) (xTest (x2 (cIsN fun b => b) ta tb)) := t3_cmp op_isN con_isN ha hb (nomark _)
theorem t3_notN (ha : R3 X a ta) (hb : R3 X b tb) : T3 X (.Compare a [.IsNot] [b] pos) (xTest (x2 (cIsN fun b => !b) ta tb)) := t3_cmp op_notN con_notN ha hb (nomark _)
/-! ### not, and, or; a chain of two comparisons; a if t else b; -a -/
variable {tt uu : TT3} {rest : List Expr}
def xNot (t : TT3) : TT3 := fun r Q => t r fun b r' => Q (!b) r'
theorem t3_not (ha : T3 X a tt) : T3 X (.UnaryOp .Not a pos) (xNot tt) := by
  obtain ⟨te, ea, sa⟩ := ha.ex
  exact ⟨_, pt_not ea, fun G Z H ks vs r s Q Q3 st ht k => sa G Z H ks vs r s _ _ st ht fun Z' H' b r' g st' q => k Z' H' (!b) r' g st' q⟩
def xAnd (t u : TT3) : TT3 := fun r Q => t r fun b r' => (b = true → u r' Q) ∧ (b = false → Q false r')
def xOr (t u : TT3) : TT3 := fun r Q => t r fun b r' => (b = true → Q true r') ∧ (b = false → u r' Q)
theorem w3_and1 (ha : T3 X a tt) : W3 X (.BoolOp .And [a] pos) tt := by
  obtain ⟨te, ea, sa⟩ := ha.ex
  exact ⟨_, pw_and1 ea, sa⟩
theorem w3_or1 (ha : T3 X a tt) : W3 X (.BoolOp .Or [a] pos) tt := by
  obtain ⟨te, ea, sa⟩ := ha.ex
  exact ⟨_, pw_or1 ea, sa⟩
theorem w3_and (ha : T3 X a tt) (hb : W3 X (.BoolOp .And (b :: rest) pos) uu) : W3 X (.BoolOp .And (a :: b :: rest) pos) (xAnd tt uu) := by
  obtain ⟨tea, ea, sa⟩ := ha.ex
  obtain ⟨teb, eb, sb⟩ := hb.ex
  refine ⟨_, pw_and ea eb, fun G Z H ks vs r s Q Q3 st ht k => sa G Z H ks vs r s _ _ st ht fun Z' H' c r' g st' q => ?_⟩
  cases c with
  | true => exact sb G Z' H' ks vs r' s Q Q3 st' (q.1 rfl) fun Z2 H2 d r2 g2 => k Z2 H2 d r2 (g.trans g2)
  | false => exact k Z' H' false r' g st' (q.2 rfl)
theorem w3_or (ha : T3 X a tt) (hb : W3 X (.BoolOp .Or (b :: rest) pos) uu) : W3 X (.BoolOp .Or (a :: b :: rest) pos) (xOr tt uu) := by
  obtain ⟨tea, ea, sa⟩ := ha.ex
  obtain ⟨teb, eb, sb⟩ := hb.ex
  refine ⟨_, pw_or ea eb, fun G Z H ks vs r s Q Q3 st ht k => sa G Z H ks vs r s _ _ st ht fun Z' H' c r' g st' q => ?_⟩
  cases c with
  | false => exact sb G Z' H' ks vs r' s Q Q3 st' (q.2 rfl) fun Z2 H2 d r2 g2 => k Z2 H2 d r2 (g.trans g2)
  | true => exact k Z' H' true r' g st' (q.1 rfl)
theorem t3_w (ha : W3 X a tt) : T3 X a tt := by
  obtain ⟨te, ea, sa⟩ := ha.ex
  exact ⟨_, ea.pt, sa⟩
/-- .. as values: truths -/
def xAndV (t u : TE3) : TE3 := fun r Q => t r fun x r' => asB x fun b => (b = true → u r' Q) ∧ (b = false → Q (.d (.bool false)) r')
theorem r3_one {op : BoolOp} (ha : R3 X a ta) : R3 X (.BoolOp op [a] pos) ta := by
  obtain ⟨te, ea, sa⟩ := ha.ex
  exact ⟨_, pe_one ea, sa⟩
theorem r3_and (ha : R3 X a ta) (hb : R3 X (.BoolOp .And (b :: rest) pos) tb) : R3 X (.BoolOp .And (a :: b :: rest) pos) (xAndV ta tb) := by
  obtain ⟨tea, ea, sa⟩ := ha.ex
  obtain ⟨teb, eb, sb⟩ := hb.ex
  refine ⟨_, pe_and ea eb, fun G Z H ks vs r s Q Q3 st ht k => sa G Z H ks vs r s _ _ st ht fun Z' H' x v r' g st' pv q => ?_⟩
  obtain ⟨c, rfl, q⟩ := asB_of q
  refine ⟨c, pv.bool, ?_⟩
  cases c with
  | true => exact sb G Z' H' ks vs r' s Q Q3 st' (q.1 rfl) fun Z2 H2 d v2 r2 g2 => k Z2 H2 d v2 r2 (g.trans g2)
  | false => exact k Z' H' (.d (.bool false)) _ r' g st' (Dq.bl _) (q.2 rfl)
def xIf (t : TT3) (ta tb : TE3) : TE3 := fun r Q => t r fun c r' => (c = true → ta r' Q) ∧ (c = false → tb r' Q)
theorem r3_if (hc : T3 X c tt) (ha : R3 X a ta) (hb : R3 X b tb) : R3 X (.IfExp c a b pos) (xIf tt ta tb) := by
  obtain ⟨tec, ec, sc⟩ := hc.ex
  obtain ⟨tea, ea, sa⟩ := ha.ex
  obtain ⟨teb, eb, sb⟩ := hb.ex
  refine ⟨_, pe_ifExp ec ea eb, fun G Z H ks vs r s Q Q3 st ht k => sc G Z H ks vs r s _ _ st ht fun Z' H' d r' g st' q => ?_⟩
  cases d with
  | true => exact sa G Z' H' ks vs r' s Q Q3 st' (q.1 rfl) fun Z2 H2 x v r2 g2 => k Z2 H2 x v r2 (g.trans g2)
  | false => exact sb G Z' H' ks vs r' s Q Q3 st' (q.2 rfl) fun Z2 H2 x v r2 g2 => k Z2 H2 x v r2 (g.trans g2)
theorem p3_if (hc : T3 X c tt) (ha : P3 X a ta) (hb : P3 X b tb) : P3 X (.IfExp c a b pos) (xIf tt ta tb) := by
  obtain ⟨tec, ec, sc⟩ := hc.ex
  obtain ⟨tea, ea, sa⟩ := ha.ex
  obtain ⟨teb, eb, sb⟩ := hb.ex
  refine ⟨_, pe_ifExp ec ea eb, fun G Z H ks vs r s Q Q3 st ht k => sc G Z H ks vs r s _ _ st ht fun Z' H' d r' g st' q => ?_⟩
  cases d with
  | true => exact sa G Z' H' ks vs r' s Q Q3 st' (q.1 rfl) fun Z2 H2 x v r2 g2 => k Z2 H2 x v r2 (g.trans g2)
  | false => exact sb G Z' H' ks vs r' s Q Q3 st' (q.2 rfl) fun Z2 H2 x v r2 g2 => k Z2 H2 x v r2 (g.trans g2)
def xNeg (t : TE3) : TE3 := fun r Q => t r fun x r' => asI x fun i => Q (.d (.int (-i))) r'
theorem r3_neg (ha : R3 X a ta) : R3 X (.UnaryOp .USub a pos) (xNeg ta) := by
  obtain ⟨te, ea, sa⟩ := ha.ex
  refine ⟨_, pe_un un_neg ea, fun G Z H ks vs r s Q Q3 st ht k => sa G Z H ks vs r s _ _ st ht fun Z' H' x v r' g st' pv q => ?_⟩
  obtain ⟨c, rfl, q⟩ := asI_of q
  exact ⟨c, pv.int, k Z' H' (.d (.int (-c))) _ r' g st' (Dq.int _) q⟩
/-- a op b op c of ints -/
def xChain (p q : Int → Int → Bool) (ta tb tc : TE3) : TE3 := fun r Q => ta r fun x r1 => tb r1 fun y r2 => asI x fun i => asI y fun j => (p i j = true → tc r2 fun z r3 => asI z fun l => Q (.d (.bool (q j l))) r3) ∧ (p i j = false → Q (.d (.bool false)) r2)
theorem chain_run {p q : Int → Int → Bool} {tea teb tec : TE} (ha : ∀ (G Z H : Hp) (ks : List T) (vs : List V) (r : Rho) (s : L2.St) (Q : VK) (Q3 : T → Rho → Prop), S3 X.K G Z H ks vs r s → ta r Q3 →
    (∀ Z' H' x v r', Gr G Z Z' → S3 X.K G Z' H' ks vs r' s → Pv X.K Z' r' s x v → Q3 x r' → Q v H') → tea s H Q)
    (hb : ∀ (G Z H : Hp) (ks : List T) (vs : List V) (r : Rho) (s : L2.St) (Q : VK) (Q3 : T → Rho → Prop), S3 X.K G Z H ks vs r s → tb r Q3 →
    (∀ Z' H' x v r', Gr G Z Z' → S3 X.K G Z' H' ks vs r' s → Pv X.K Z' r' s x v → Q3 x r' → Q v H') → teb s H Q)
    (hc : ∀ (G Z H : Hp) (ks : List T) (vs : List V) (r : Rho) (s : L2.St) (Q : VK) (Q3 : T → Rho → Prop), S3 X.K G Z H ks vs r s → tc r Q3 →
    (∀ Z' H' x v r', Gr G Z Z' → S3 X.K G Z' H' ks vs r' s → Pv X.K Z' r' s x v → Q3 x r' → Q v H') → tec s H Q) :
    ∀ (G Z H : Hp) (ks : List T) (vs : List V) (r : Rho) (s : L2.St) (Q : VK) (Q3 : T → Rho → Prop), S3 X.K G Z H ks vs r s → xChain p q ta tb tc r Q3 →
    (∀ Z' H' x v r', Gr G Z Z' → S3 X.K G Z' H' ks vs r' s → Pv X.K Z' r' s x v → Q3 x r' → Q v H') → tChain (rI0 fun i j => .bl (p i j)) (rI0 fun i j => .bl (q i j)) tea teb tec s H Q :=
  fun G Z H ks vs r s Q Q3 st ht k => ha G Z H ks vs r s _ _ st ht fun Z1 H1 x v r1 g1 st1 p1 q1 => hb G Z1 H1 ks vs r1 s _ _ st1 q1 fun Z2 H2 y u r2 g2 st2 p2 q2 => by
    obtain ⟨i, rfl, q4⟩ := asI_of q2
    obtain ⟨j, rfl, q5⟩ := asI_of q4
    refine ⟨i, j, p1.int, p2.int, p i j, rfl, ?_⟩
    cases e : p i j with
    | true =>
      refine hc G Z2 H2 ks vs r2 s _ _ st2 (q5.1 e) fun Z3 H3 z w r3 g3 st3 p3 q3 => ?_
      obtain ⟨l, rfl, q6⟩ := asI_of q3
      exact ⟨j, l, p2.int, p3.int, k Z3 H3 (.d (.bool (q j l))) _ r3 ((g1.trans g2).trans g3) st3 (Dq.bl _) q6⟩
    | false =>
      exact k Z2 H2 (.d (.bool false)) _ r2 (g1.trans g2) st2 (Dq.bl _) (q5.2 e)
theorem t3_chain {op op' : CmpOp} {p q : Int → Int → Bool} (ho : OpR X (compareOp op) (rI0 fun i j => .bl (p i j))) (ho' : OpR X (compareOp op') (rI0 fun i j => .bl (q i j))) (ha : R3 X a ta) (hb : R3 X b tb) (hc : R3 X c tc)
    (hm : lastMarks [op, op'] [b, c] = false := by with_unfolding_all rfl) : T3 X (.Compare a [op, op'] [b, c] pos) (xTest (xChain p q ta tb tc)) := by
  obtain ⟨tea, ea, sa⟩ := ha.ex
  obtain ⟨teb, eb, sb⟩ := hb.ex
  obtain ⟨tec, ec, sc⟩ := hc.ex
  refine ⟨_, pt_chain ho ho' ea eb ec hm, fun G Z H ks vs r s Q Q3 st ht k => chain_run sa sb sc G Z H ks vs r s _ _ st ht fun Z' H' x v r' g st' pv q => ?_⟩
  obtain ⟨b, rfl, q⟩ := asB_of q
  exact ⟨b, pv.bool, k Z' H' b r' g st' q⟩
end
end L3
namespace L3
open PySem PySem.Spec PyProof.Rows L2
/-! ### places -/
def getI {α : Type} (l : List α) (i : Int) : Option α := if 0 ≤ i then l[i.toNat]? else if -(l.length : Int) ≤ i then l[(i + l.length).toNat]? else none
theorem atI_eq {α : Type} (l : List α) (i : Int) : atI l i = getI l i := by
  unfold atI ixN getI
  by_cases h0 : 0 ≤ i
  · rw [if_pos h0, if_pos h0]
    by_cases h1 : i < (l.length : Int)
    · rw [if_pos h1]; rfl
    · rw [if_neg h1, List.getElem?_eq_none (by omega)]; rfl
  · rw [if_neg h0, if_neg h0]
    by_cases h1 : -(l.length : Int) ≤ i
    · rw [if_pos h1, if_pos h1]; rfl
    · rw [if_neg h1, if_neg h1]; rfl
theorem getI_nat {α : Type} (l : List α) (j : Nat) : getI l (j : Int) = l[j]? := by
  unfold getI
  rw [if_pos (by omega)]
  rfl
theorem getI_map {α β : Type} (f : α → β) (l : List α) (i : Int) : getI (l.map f) i = (getI l i).map f := by
  unfold getI
  rw [List.length_map]
  split
  · rw [List.getElem?_map]
  · split
    · rw [List.getElem?_map]
    · rfl
theorem getI_set {α : Type} (l : List α) (i : Int) : ∀ x, getI l i = some x → ∃ j, ixN l.length i = some j ∧ l[j]? = some x := by
  intro x h
  have h' : atI l i = some x := by rw [atI_eq]; exact h
  unfold atI at h'
  cases e : ixN l.length i with
  | none => rw [e] at h'; cases h'
  | some j => rw [e] at h'; exact ⟨j, rfl, h'⟩
section
variable {K : PySem.W.Frag} {Z H : Hp}
theorem rts_len : ∀ {l : List T} {vs : List V}, RTs K Z H l vs → l.length = vs.length
  | _, _, .nil => rfl
  | _, _, .cons _ q => by simp [rts_len q]
theorem rts_get : ∀ {l : List T} {vs : List V} {i : Nat} {t : T}, RTs K Z H l vs → l[i]? = some t → ∃ v, vs[i]? = some v ∧ RT K Z H t v
  | _, _, i, _, .nil, h => by simp at h
  | _, _, 0, t, .cons q _, h => by
    simp at h; subst h; exact ⟨_, rfl, q⟩
  | _, _, i + 1, t, .cons _ q, h => by
    obtain ⟨v, e, r⟩ := rts_get (i := i) (t := t) q (by simpa using h)
    exact ⟨v, by simpa using e, r⟩
theorem rts_at {l : List T} {vs : List V} {i : Int} {t : T} (q : RTs K Z H l vs) (h : getI l i = some t) : ∃ v, atI vs i = some v ∧ RT K Z H t v := by
  obtain ⟨j, e, g⟩ := getI_set l i t h
  obtain ⟨v, e2, r⟩ := rts_get q g
  refine ⟨v, ?_, r⟩
  unfold atI
  rw [← rts_len q, e]
  exact e2
theorem dpa_len : ∀ {l : List PyData} {vs : List V}, DqAll K Z vs l → l.length = vs.length
  | _, _, .nil => rfl
  | _, _, .cons _ q => by simp [dpa_len q]
theorem dpa_get : ∀ {l : List PyData} {vs : List V} {i : Nat} {t : PyData}, DqAll K Z vs l → l[i]? = some t → ∃ v, vs[i]? = some v ∧ Dq K Z v t
  | _, _, i, _, .nil, h => by simp at h
  | _, _, 0, t, .cons q _, h => by
    simp at h; subst h; exact ⟨_, rfl, q⟩
  | _, _, i + 1, t, .cons _ q, h => by
    obtain ⟨v, e, r⟩ := dpa_get (i := i) (t := t) q (by simpa using h)
    exact ⟨v, by simpa using e, r⟩
theorem dpa_at {l : List PyData} {vs : List V} {i : Int} {t : PyData} (q : DqAll K Z vs l) (h : getI l i = some t) : ∃ v, atI vs i = some v ∧ Dq K Z v t := by
  obtain ⟨j, e, g⟩ := getI_set l i t h
  obtain ⟨v, e2, r⟩ := dpa_get q g
  refine ⟨v, ?_, r⟩
  unfold atI
  rw [← dpa_len q, e]
  exact e2
theorem dpa_drop : ∀ {l : List PyData} {vs : List V} (n : Nat), DqAll K Z vs l → DqAll K Z (vs.drop n) (l.drop n)
  | _, _, 0, q => q
  | _, _, n + 1, .nil => .nil
  | _, _, n + 1, .cons _ q => dpa_drop n q
theorem dpa_take : ∀ {l : List PyData} {vs : List V} (n : Nat), DqAll K Z vs l → DqAll K Z (vs.take n) (l.take n)
  | _, _, 0, q => .nil
  | _, _, n + 1, .nil => .nil
  | _, _, n + 1, .cons h q => .cons h (dpa_take n q)
theorem dpa_app : ∀ {l m : List PyData} {vs ws : List V}, DqAll K Z vs l → DqAll K Z ws m → DqAll K Z (vs ++ ws) (l ++ m)
  | _, _, _, _, .nil, q => q
  | _, _, _, _, .cons h k, q => .cons h (dpa_app k q)
theorem dpa_rep : ∀ {l : List PyData} {vs : List V} (n : Nat), DqAll K Z vs l → DqAll K Z (List.replicate n vs).flatten (List.replicate n l).flatten
  | _, _, 0, q => .nil
  | _, _, n + 1, q => by rw [List.replicate_succ, List.flatten_cons, List.replicate_succ, List.flatten_cons]; exact dpa_app q (dpa_rep n q)
theorem dqa_ints : ∀ (ns : List Int), DqAll K Z (ns.map V.int) (ns.map PyData.int)
  | [] => .nil
  | n :: ns => .cons (.int n) (dqa_ints ns)
theorem rts_app : ∀ {l m : List T} {vs ws : List V}, RTs K Z H l vs → RTs K Z H m ws → RTs K Z H (l ++ m) (vs ++ ws)
  | _, _, _, _, .nil, q => q
  | _, _, _, _, .cons h k, q => .cons h (rts_app k q)
end
/-- all items data -/
def alld : List T → Bool
  | [] => true
  | .d _ :: l => alld l
  | _ :: _ => false
theorem alld_eq : ∀ {l : List T}, alld l = true → l = (fzs l).map T.d
  | [], _ => rfl
  | .d x :: l, h => by simp only [fzs, fz, List.map_cons, ← alld_eq (l := l) h]
  | .v _ :: _, h => by simp [alld] at h
  | .sc _ _ :: _, h => by simp [alld] at h
  | .own _ _ :: _, h => by simp [alld] at h
  | .tp _ :: _, h => by simp [alld] at h
theorem fzs_d : ∀ (l : List PyData), fzs (l.map T.d) = l
  | [] => rfl
  | x :: l => by simp only [List.map_cons, fzs, fz, fzs_d l]
theorem alld_d : ∀ (l : List PyData), alld (l.map T.d) = true
  | [] => rfl
  | x :: l => by simp only [List.map_cons, alld, alld_d l]
theorem fzs_map {α : Type} (f : α → PyData) (l : List α) : fzs (l.map fun x => T.d (f x)) = l.map f := by
  have := fzs_d (l.map f)
  rw [List.map_map] at this
  exact this
theorem alld_map {α : Type} (f : α → PyData) (l : List α) : alld (l.map fun x => T.d (f x)) = true := by
  have := alld_d (l.map f)
  rw [List.map_map] at this
  exact this
theorem nvs_d : ∀ (l : List PyData), nvs (l.map T.d) = true
  | [] => rfl
  | x :: l => by simp only [List.map_cons, nvs, nv, nvs_d l, Bool.and_self]
theorem nvs_map {α : Type} (f : α → PyData) (l : List α) : nvs (l.map fun x => T.d (f x)) = true := by
  have := nvs_d (l.map f)
  rw [List.map_map] at this
  exact this
theorem cts_d (a : Addr) : ∀ (l : List PyData), cts a (l.map T.d) = 0
  | [] => rfl
  | x :: l => by simp only [List.map_cons, cts, ct, cts_d a l]
theorem rts_of_dpa {K : PySem.W.Frag} {Z H : Hp} : ∀ {l : List PyData} {vs : List V}, DqAll K Z vs l → RTs K Z H (l.map T.d) vs
  | _, _, .nil => .nil
  | _, _, .cons h q => .cons (.d h) (rts_of_dpa q)
theorem dpa_of_rts {K : PySem.W.Frag} {Z H : Hp} : ∀ {l : List PyData} {vs : List V}, RTs K Z H (l.map T.d) vs → DqAll K Z vs l
  | [], _, .nil => .nil
  | _ :: _, _, .cons h q => by
    cases h with
    | d h => exact .cons h (dpa_of_rts q)
section
variable {X : Cx} {e a b c : Expr} {t ta tb tc : TE3} {pos : Pos}
/-! ### a[i] -/
def cItem (t : T) (r : Rho) (Q : T → Rho → Prop) : Prop := match t with | .d z => Q (.d z) r | .own b m => Q (.own b m) r | .sc b ns => Q (.sc b ns) r | _ => False
def cIx : C2 := fun r1 x y r Q => asI y fun i => match x with
  | .d (.list l) => ∃ z, getI l i = some z ∧ Q (.d z) r
  | .d (.tuple l) => ∃ z, getI l i = some z ∧ Q (.d z) r
  | .d (.str z) => z.length ≤ sizeLine ∧ ∃ c, getI z.cps.toList i = some c ∧ Q (.d (.str ⟨#[c]⟩)) r
  | .sc _ ns => ∃ z, getI ns i = some z ∧ Q (.d (.int z)) r
  | .own _ l => r = r1 ∧ ∃ t, getI l i = some t ∧ cItem t r Q
  | .tp l => r = r1 ∧ ∃ t, getI l i = some t ∧ cItem t r Q
  | _ => False
theorem con_ix : Con2 X (rIx X.K) cIx := fun G Z H ks vs r1 r s x y tx ty Q Q3 st px py hc0 k => by
  obtain ⟨i, rfl, hc⟩ := asI_of hc0
  clear hc0
  cases py.int
  have seqD : ∀ {l : List PyData} {z : PyData} {xs : List V}, DqAll X.K Z xs l → getI l i = some z → Q3 (.d z) r → ∃ v, atI xs i = some v ∧ Q v H := fun {l z xs} hd hg q => by
    obtain ⟨v, e, dz⟩ := dpa_at hd hg
    exact ⟨v, e, k Z H (.d z) v r (Gr.refl _ _) st dz q⟩
  cases tx with
  | v x => exact hc.elim
  | sc a ns =>
    obtain ⟨rfl, hs⟩ := px.scr a ns rfl
    obtain ⟨z, hg, hc⟩ := hc
    exact .inl ⟨_, _, i, .int z, rfl, rfl, st.zh.L hs, by rw [atI_eq, getI_map, hg]; rfl, k Z H (.d (.int z)) _ r (Gr.refl _ _) st (Dq.int _) hc⟩
  | d d =>
    have dx := px.dat d rfl
    cases dx with
    | lst hs ha =>
      obtain ⟨z, hg, hc⟩ := hc
      obtain ⟨v, e, q⟩ := seqD ha hg hc
      exact .inl ⟨_, _, i, v, rfl, rfl, SqL.of (st.zh _ _ hs), e, q⟩
    | tup hs ha =>
      obtain ⟨z, hg, hc⟩ := hc
      obtain ⟨v, e, q⟩ := seqD ha hg hc
      exact .inr (.inl ⟨_, _, i, v, rfl, rfl, SqT.of (st.zh _ _ hs), e, q⟩)
    | str z =>
      obtain ⟨hz, c, hg, hc⟩ := hc
      exact .inr (.inr ⟨z, i, c, rfl, rfl, hz, by rw [atI_eq]; exact hg, k Z H (.d (.str ⟨#[c]⟩)) _ r (Gr.refl _ _) st (Dq.str _) hc⟩)
    | exc _ _ => exact hc.elim
    | non => exact hc.elim
    | bl _ => exact hc.elim
    | int _ => exact hc.elim
  | own a0 l =>
    obtain ⟨e1, t, hg, hc⟩ := hc
    have pp := px.same e1
    have rt := pp.now st
    cases rt with
    | own h1 h2 =>
      obtain ⟨v, e, rz⟩ := rts_at h2 hg
      unfold cItem at hc
      split at hc
      · rename_i z
        cases rz with
        | d dz => exact .inl ⟨_, _, i, v, rfl, rfl, SqL.of h1, e, k Z H (.d z) v r (Gr.refl _ _) st dz hc⟩
      · rename_i b m
        cases rz with
        | own g1 g2 =>
          refine .inl ⟨_, _, i, _, rfl, rfl, SqL.of h1, e, k Z H (.own b m) _ r (Gr.refl _ _) st ?_ hc⟩
          intro G2 Z2 H2 ks2 vs2 sub st2
          have rt2 := pp G2 Z2 H2 ks2 vs2 sub st2
          cases rt2 with
          | own k1 k2 =>
            obtain ⟨v2, _, rz2⟩ := rts_at k2 hg
            cases rz2 with
            | own m1 m2 => exact .own m1 m2
      · cases rz with
        | sc hs => exact .inl ⟨_, _, i, _, rfl, rfl, SqL.of h1, e, k Z H (.sc _ _) _ r (Gr.refl _ _) st ⟨rfl, hs⟩ hc⟩
      · exact hc.elim
  | tp l =>
    obtain ⟨e1, t, hg, hc⟩ := hc
    have pp := px.same e1
    have rt := pp.now st
    cases rt with
    | tp h1 h2 =>
      obtain ⟨v, e, rz⟩ := rts_at h2 hg
      unfold cItem at hc
      split at hc
      · rename_i z
        cases rz with
        | d dz => exact .inr (.inl ⟨_, _, i, v, rfl, rfl, SqT.of (st.zh _ _ h1), e, k Z H (.d z) v r (Gr.refl _ _) st dz hc⟩)
      · rename_i b m
        cases rz with
        | own g1 g2 =>
          refine .inr (.inl ⟨_, _, i, _, rfl, rfl, SqT.of (st.zh _ _ h1), e, k Z H (.own b m) _ r (Gr.refl _ _) st ?_ hc⟩)
          intro G2 Z2 H2 ks2 vs2 sub st2
          have rt2 := pp G2 Z2 H2 ks2 vs2 sub st2
          cases rt2 with
          | tp k1 k2 =>
            obtain ⟨v2, _, rz2⟩ := rts_at k2 hg
            cases rz2 with
            | own m1 m2 => exact .own m1 m2
      · cases rz with
        | sc hs => exact .inr (.inl ⟨_, _, i, _, rfl, rfl, SqT.of (st.zh _ _ h1), e, k Z H (.sc _ _) _ r (Gr.refl _ _) st ⟨rfl, hs⟩ hc⟩)
      · exact hc.elim
theorem r3_ix (ha : R3 X a ta) (hb : R3 X b tb) (hs : PlainIx b := by intro _ _; rfl) : R3 X (.Subscript a b pos) (x2 cIx ta tb) := by
  obtain ⟨tea, ea, sa⟩ := ha.ex
  obtain ⟨teb, eb, sb⟩ := hb.ex
  exact ⟨_, pe_ix ix_seq ea eb hs, two_run con_ix sa sb⟩
/-! ### a[lo:hi] -/
def cutL {α : Type} (xs : List α) (lo hi : Option Int) : List α := (xs.drop (HT.sIx xs.length 0 lo)).take (HT.sIx xs.length xs.length hi - HT.sIx xs.length 0 lo)
theorem cutL_map {α β : Type} (f : α → β) (xs : List α) (lo hi : Option Int) : cutL (xs.map f) lo hi = (cutL xs lo hi).map f := by
  unfold cutL
  rw [List.length_map, List.map_take, List.map_drop]
abbrev TO3 := Rho → (Option Int → Rho → Prop) → Prop
structure PO3 (X : Cx) (e : Option Expr) (t : TO3) : Prop where
  ex : ∃ te : TO, PO X e te ∧ ∀ (G Z H : Hp) (ks : List T) (vs : List V) (r : Rho) (s : L2.St) (Q : Option Int → Hp → Prop) (Q3 : Option Int → Rho → Prop), S3 X.K G Z H ks vs r s → t r Q3 →
    (∀ Z' H' x r', Gr G Z Z' → S3 X.K G Z' H' ks vs r' s → Q3 x r' → Q x H') → te s H Q
def xNo : TO3 := fun r Q => Q none r
def xSome (t : TE3) : TO3 := fun r Q => t r fun x r' => asI x fun i => Q (some i) r'
theorem po3_none : PO3 X none xNo := ⟨_, po_none, fun G Z H ks vs r s Q Q3 st ht k => k Z H none r (Gr.refl _ _) st ht⟩
theorem po3_some (h : R3 X e t) : PO3 X (some e) (xSome t) := by
  obtain ⟨te, ea, sa⟩ := h.ex
  refine ⟨_, po_some ea, fun G Z H ks vs r s Q Q3 st ht k => sa G Z H ks vs r s _ _ st ht fun Z' H' x v r' g st' pv q => ?_⟩
  obtain ⟨i, rfl, q⟩ := asI_of q
  exact ⟨i, pv.int, k Z' H' (some i) r' g st' q⟩
def xSl (te : TE3) (tl th : TO3) : TE3 := fun r Q => te r fun x r1 => tl r1 fun lo r2 => th r2 fun hi r3 => match x with
  | .d (.list l) => ∀ p, Q (.own p ((cutL l lo hi).map T.d)) r3
  | .sc _ ns => ∀ p, Q (.own p ((cutL ns lo hi).map fun n => T.d (.int n))) r3
  | .own _ l => r3 = r1 ∧ alld l = true ∧ ∀ p, Q (.own p ((cutL (fzs l) lo hi).map T.d)) r3
  | .d (.tuple l) => Q (.d (.tuple (cutL l lo hi))) r3
  | .d (.str z) => z.length ≤ sizeLine ∧ Q (.d (.str (cutS z lo hi))) r3
  | _ => False
theorem p3_sl {lo hi : Option Expr} {tl th : TO3} {p2 : Pos} (ha : R3 X a ta) (hl : PO3 X lo tl) (hh : PO3 X hi th) : P3 X (.Subscript a (.Slice lo hi none p2) pos) (xSl ta tl th) := by
  obtain ⟨tea, ea, sa⟩ := ha.ex
  obtain ⟨tel, el, sl⟩ := hl.ex
  obtain ⟨teh, eh, sh⟩ := hh.ex
  refine ⟨_, pe_slice (sl_list.or (sl_tupA.or sl_str)) ea el eh, fun G Z H ks vs r s Q Q3 st ht k => sa G Z H ks vs r s _ _ st ht fun Z1 H1 x v r1 g1 st1 pv q => sl G Z1 H1 ks vs r1 s _ _ st1 q fun Z2 H2 lo r2 g2 st2 q => sh G Z2 H2 ks vs r2 s _ _ st2 q fun Z3 H3 hi r3 g3 st3 q => ?_⟩
  have pp : Pv2 X.K Z3 r1 r3 s x v := pv.two (g2.trans g3).sub
  have gg := (g1.trans g2).trans g3
  have newL : ∀ {xs : List V} {l : List PyData}, DqAll X.K Z3 xs l → (∀ p, Q3 (.own p ((cutL l lo hi).map T.d)) r3) → ∀ p, H3 p = none → Q (.ref p) (upd H3 p (.lst (cutV xs lo hi))) := fun {xs l} hd hq p hp => by
    have hd2 : DqAll X.K Z3 (cutV xs lo hi) (cutL l lo hi) := by
      unfold cutV cutL
      rw [dpa_len hd]
      exact dpa_take _ (dpa_drop _ hd)
    have st4 : S3 X.K G Z3 H3 ((cutL l lo hi).map T.d ++ ks) (cutV xs lo hi ++ vs) r3 s := ⟨st3.zh, st3.gh, fun a => by rw [cts_append, cts_d]; have := st3.one a; omega, fun a c => st3.ow a (by rw [cts_append, cts_d] at c; omega), rts_app (rts_of_dpa hd2) st3.stk, st3.slot, st3.len⟩
    exact k _ _ _ _ r3 gg (st4.mkOwn (by rw [List.length_map]; exact dpa_len hd2) hp) (hq p)
  cases x with
  | v x => exact q.elim
  | tp l => exact q.elim
  | sc a ns =>
    obtain ⟨rfl, hs⟩ := pp.scr a ns rfl
    have q' : ∀ p, Q3 (.own p ((cutL (ns.map PyData.int) lo hi).map T.d)) r3 := fun p => by
      rw [cutL_map, List.map_map]
      exact q p
    exact .inl ⟨_, _, rfl, st3.zh.L hs, newL (dqa_ints ns) q'⟩
  | own a0 l =>
    obtain ⟨e1, al, q⟩ := q
    have rt := (pp.same e1).now st3
    cases rt with
    | own h1 h2 =>
      rw [alld_eq al] at h2
      exact .inl ⟨_, _, rfl, SqL.of h1, newL (dpa_of_rts h2) q⟩
  | d d =>
    have dx := pp.dat d rfl
    cases dx with
    | lst hs ha => exact .inl ⟨_, _, rfl, SqL.of (st3.zh _ _ hs), newL ha q⟩
    | @tup a0 xs l hs ha =>
      have hd2 : DqAll X.K Z3 (cutV xs lo hi) (cutL l lo hi) := by
        unfold cutV cutL
        rw [dpa_len ha]
        exact dpa_take _ (dpa_drop _ ha)
      refine .inr (.inl ⟨a0, xs, rfl, SqT.of (st3.zh _ _ hs), fun w => ?_, fun w p hp => ?_⟩)
      · have e2 : cutL l lo hi = l := by
          unfold cutL
          rw [dpa_len ha, w.1, w.2, List.drop_zero, Nat.sub_zero, ← dpa_len ha, List.take_length]
        simp only [e2] at q
        exact k Z3 H3 _ _ r3 gg (st3.pushD (.tup hs ha)) q
      · obtain ⟨g4, st4⟩ := st3.laidG (o := .tup (cutV xs lo hi)) hp
        exact k _ _ _ _ r3 (gg.trans g4) (st4.pushD (.tup upd_same (dpa_mono g4.sub _ _ hd2))) q
    | str z => exact .inr (.inr ⟨z, rfl, q.1, k Z3 H3 (.d (.str _)) _ r3 gg (st3.pushD (.str _)) q.2⟩)
    | exc _ _ => exact q.elim
    | non => exact q.elim
    | bl _ => exact q.elim
    | int _ => exact q.elim
/-! ### displays -/
abbrev TA3 := Rho → (List T → Rho → Prop) → Prop
structure PA3 (X : Cx) (es : List Expr) (t : TA3) : Prop where
  ex : ∃ te : TA, PA X es te ∧ ∀ (G Z H : Hp) (ks : List T) (vs : List V) (r : Rho) (s : L2.St) (Q : List V → Hp → Prop) (Q3 : List T → Rho → Prop), S3 X.K G Z H ks vs r s → t r Q3 →
    (∀ Z' H' xs us r', Gr G Z Z' → xs.length = us.length → S3 X.K G Z' H' (xs ++ ks) (us ++ vs) r' s → Q3 xs r' → Q us H') → te s H Q
theorem S3.mid {K : PySem.W.Frag} {G Z H : Hp} {r : Rho} {s : L2.St} {t : T} {v : V} {ks : List T} {vs : List V} : ∀ {l : List T} {xs : List V}, l.length = xs.length → S3 K G Z H (l ++ t :: ks) (xs ++ v :: vs) r s → S3 K G Z H (t :: (l ++ ks)) (v :: (xs ++ vs)) r s := by
  intro l xs hl h
  have hm : ∀ (l : List T) (xs : List V), l.length = xs.length → RTs K Z H (l ++ t :: ks) (xs ++ v :: vs) → RTs K Z H (t :: (l ++ ks)) (v :: (xs ++ vs)) := by
    intro l
    induction l with
    | nil => intro xs hl q; cases xs with | nil => exact q | cons _ _ => simp at hl
    | cons y l ih =>
      intro xs hl q
      cases xs with
      | nil => simp at hl
      | cons x xs =>
        cases q with
        | cons q1 q2 =>
          have := ih xs (by simpa using hl) q2
          cases this with
          | cons z1 z2 => exact .cons z1 (.cons q1 z2)
  have hc : ∀ a, cts a (l ++ t :: ks) = cts a (t :: (l ++ ks)) := fun a => by
    rw [cts_append]
    simp only [cts]
    rw [cts_append]
    omega
  exact ⟨h.zh, h.gh, fun a => by rw [← hc a]; exact h.one a, fun a c => h.ow a (by rw [hc a]; exact c), hm l xs hl h.stk, h.slot, h.len⟩
theorem S3.mid' {K : PySem.W.Frag} {G Z H : Hp} {r : Rho} {s : L2.St} {t : T} {v : V} {ks : List T} {vs : List V} : ∀ {l : List T} {xs : List V}, l.length = xs.length → S3 K G Z H (t :: (l ++ ks)) (v :: (xs ++ vs)) r s → S3 K G Z H (l ++ t :: ks) (xs ++ v :: vs) r s := by
  intro l xs hl h
  have hm : ∀ (l : List T) (xs : List V), l.length = xs.length → RTs K Z H (t :: (l ++ ks)) (v :: (xs ++ vs)) → RTs K Z H (l ++ t :: ks) (xs ++ v :: vs) := by
    intro l
    induction l with
    | nil => intro xs hl q; cases xs with | nil => exact q | cons _ _ => simp at hl
    | cons y l ih =>
      intro xs hl q
      cases xs with
      | nil => simp at hl
      | cons x xs =>
        cases q with
        | cons q1 q2 =>
          cases q2 with
          | cons q3 q4 => exact .cons q3 (ih xs (by simpa using hl) (.cons q1 q4))
  have hc : ∀ a, cts a (l ++ t :: ks) = cts a (t :: (l ++ ks)) := fun a => by
    rw [cts_append]
    simp only [cts]
    rw [cts_append]
    omega
  exact ⟨h.zh, h.gh, fun a => by rw [hc a]; exact h.one a, fun a c => h.ow a (by rw [← hc a]; exact c), hm l xs hl h.stk, h.slot, h.len⟩
def xNil : TA3 := fun r Q => Q [] r
def xCons (t : TE3) (u : TA3) : TA3 := fun r Q => t r fun x r1 => u r1 fun xs r2 => Q (x :: xs) r2
theorem pa3_nil : PA3 X [] xNil := ⟨_, pa_nil, fun G Z H ks vs r s Q Q3 st ht k => k Z H [] [] r (Gr.refl _ _) rfl st ht⟩
theorem pa3_cons {es : List Expr} {u : TA3} (ha : P3 X e t) (hr : PA3 X es u) (hs : starEach (e :: es) X.env = (false, eval e X.env) :: starEach es X.env := by rfl) : PA3 X (e :: es) (xCons t u) := by
  obtain ⟨tea, ea, sa⟩ := ha.ex
  obtain ⟨ter, er, sr⟩ := hr.ex
  refine ⟨_, pa_cons ea er hs, fun G Z H ks vs r s Q Q3 st ht k => sa G Z H ks vs r s _ _ st ht fun Z1 H1 x v r1 g1 st1 q1 => sr G Z1 H1 (x :: ks) (v :: vs) r1 s _ _ st1 q1 fun Z2 H2 xs us r2 g2 hl st2 q2 => ?_⟩
  exact k Z2 H2 (x :: xs) (v :: us) r2 (g1.trans g2) (by simp [hl]) (st2.mid hl) q2
def xLst (t : TA3) : TE3 := fun r Q => t r fun xs r' => xs.length ≤ sizeLine ∧ ∀ p, Q (.own p xs) r'
theorem p3_lst {es : List Expr} {u : TA3} (h : PA3 X es u) : P3 X (.List es pos) (xLst u) := by
  obtain ⟨te, ea, sa⟩ := h.ex
  refine ⟨_, pe_lst ea, fun G Z H ks vs r s Q Q3 st ht k => sa G Z H ks vs r s _ _ st ht fun Z1 H1 xs us r1 g1 hl st1 q => ⟨by rw [← hl]; exact q.1, fun p hp => ?_⟩⟩
  exact k _ _ _ _ r1 g1 (st1.mkOwn hl hp) (q.2 p)
/-- a tuple of what was told: data, where all of it is -/
def mkTup (l : List T) : T := if alld l = true then .d (.tuple (fzs l)) else .tp l
theorem S3.mkTup {K : PySem.W.Frag} {G Z H : Hp} {ks : List T} {vs : List V} {r : Rho} {s : L2.St} {l : List T} {xs : List V} {p : Addr} (h : S3 K G Z H (l ++ ks) (xs ++ vs) r s) (hl : l.length = xs.length) (hp : H p = none) :
    Gr G Z (upd Z p (.tup xs)) ∧ S3 K G (upd Z p (.tup xs)) (upd H p (.tup xs)) (mkTup l :: ks) (.ref p :: vs) r s := by
  obtain ⟨g, h1⟩ := h.laidG (o := .tup xs) hp
  refine ⟨g, ?_⟩
  have splt : ∀ (l : List T) (xs : List V), l.length = xs.length → ∀ (Z H : Hp), RTs K Z H (l ++ ks) (xs ++ vs) → RTs K Z H l xs ∧ RTs K Z H ks vs := by
    intro l
    induction l with
    | nil => intro xs hl Z H q; cases xs with | nil => exact ⟨.nil, q⟩ | cons _ _ => simp at hl
    | cons t l ih =>
      intro xs hl Z H q
      cases xs with
      | nil => simp at hl
      | cons x xs =>
        cases q with
        | cons q1 q2 =>
          obtain ⟨z1, z2⟩ := ih xs (by simpa using hl) Z H q2
          exact ⟨.cons q1 z1, z2⟩
  obtain ⟨q1, q2⟩ := splt l xs hl _ _ h1.stk
  have tsq : (upd Z p (.tup xs)) p = some (.tup xs) := upd_same
  unfold L3.mkTup
  split
  · rename_i al
    rw [alld_eq al] at q1
    refine ⟨h1.zh, h1.gh, fun a => ?_, fun a c => h1.ow a ?_, .cons (.d (.tup tsq (dpa_of_rts q1))) q2, h1.slot, h1.len⟩
    · have := h1.one a
      rw [cts_append] at this
      simp only [cts, ct]
      omega
    · rw [cts_append]
      simp only [cts, ct] at c
      omega
  · refine ⟨h1.zh, h1.gh, fun a => ?_, fun a c => h1.ow a ?_, .cons (.tp tsq q1) q2, h1.slot, h1.len⟩
    · have := h1.one a
      rw [cts_append] at this
      simp only [cts, ct]
      omega
    · rw [cts_append]
      simp only [cts, ct] at c
      omega
def xTup (t : TA3) : TE3 := fun r Q => t r fun xs r' => xs.length ≤ sizeLine ∧ Q (mkTup xs) r'
theorem p3_tup {es : List Expr} {u : TA3} {x1} (h : PA3 X es u) : P3 X (.Tuple es x1 pos) (xTup u) := by
  obtain ⟨te, ea, sa⟩ := h.ex
  refine ⟨_, pe_tup ea, fun G Z H ks vs r s Q Q3 st ht k => sa G Z H ks vs r s _ _ st ht fun Z1 H1 xs us r1 g1 hl st1 q => ⟨by rw [← hl]; exact q.1, fun p hp => ?_⟩⟩
  obtain ⟨g2, st2⟩ := st1.mkTup hl hp
  exact k _ _ _ _ r1 (g1.trans g2) st2 q.2
end
end L3
namespace L3
open PySem PySem.Spec PyProof.Rows L2
section
variable {K : PySem.W.Frag} {G Z H : Hp} {ks : List T} {vs : List V} {r : Rho} {s : L2.St}
/-- a new list of data -/
theorem S3.newD {l : List PyData} {xs : List V} {p : Addr} (h : S3 K G Z H ks vs r s) (hd : DqAll K Z xs l) (hp : H p = none) : S3 K G Z (upd H p (.lst xs)) (.own p (l.map T.d) :: ks) (.ref p :: vs) r s := by
  have st4 : S3 K G Z H (l.map T.d ++ ks) (xs ++ vs) r s := ⟨h.zh, h.gh, fun a => by rw [cts_append, cts_d]; have := h.one a; omega, fun a c => h.ow a (by rw [cts_append, cts_d] at c; omega), rts_app (rts_of_dpa hd) h.stk, h.slot, h.len⟩
  exact st4.mkOwn (by rw [List.length_map]; exact dpa_len hd) hp
theorem dqa_inv : ∀ {ns : List Int} {xs : List V}, DqAll K Z xs (ns.map PyData.int) → xs = ns.map V.int
  | [], _, .nil => rfl
  | n :: ns, _, .cons h q => by
    cases h
    rw [dqa_inv q]
    rfl
end
def allI : List PyData → Bool
  | [] => true
  | .int _ :: l => allI l
  | _ :: _ => false
def intL : List PyData → List Int
  | [] => []
  | .int i :: l => i :: intL l
  | _ :: l => intL l
theorem allI_eq : ∀ {l : List PyData}, allI l = true → l = (intL l).map PyData.int
  | [], _ => rfl
  | .int i :: l, h => by simp only [intL, List.map_cons, ← allI_eq (l := l) h]
  | .none :: _, h => by simp [allI] at h
  | .bool _ :: _, h => by simp [allI] at h
  | .str _ :: _, h => by simp [allI] at h
  | .list _ :: _, h => by simp [allI] at h
  | .tuple _ :: _, h => by simp [allI] at h
  | .dict _ :: _, h => by simp [allI] at h
theorem allI_map : ∀ (ns : List Int), allI (ns.map PyData.int) = true
  | [] => rfl
  | n :: ns => by simp only [List.map_cons, allI, allI_map ns]
def maxL : List Int → Int
  | [] => 0
  | x :: l => l.foldl max x
def minL : List Int → Int
  | [] => 0
  | x :: l => l.foldl min x
theorem maxF (l : List Int) : ∀ x : Int, x ≤ l.foldl max x ∧ (∀ y ∈ l, y ≤ l.foldl max x) ∧ (l.foldl max x = x ∨ l.foldl max x ∈ l) := by
  induction l with
  | nil => intro x; exact ⟨Int.le_refl _, by simp, .inl rfl⟩
  | cons z l ih =>
    intro x
    obtain ⟨h1, h2, h3⟩ := ih (max x z)
    refine ⟨Int.le_trans (Int.le_max_left _ _) h1, fun y hy => ?_, ?_⟩
    · rcases List.mem_cons.mp hy with e | hy
      · rw [e]; exact Int.le_trans (Int.le_max_right _ _) h1
      · exact h2 y hy
    · rcases h3 with e | h3
      · have : (z :: l).foldl max x = max x z := e
        rw [this]
        rcases Int.le_total x z with q | q
        · rw [Int.max_eq_right q]; exact .inr (List.mem_cons_self ..)
        · rw [Int.max_eq_left q]; exact .inl rfl
      · exact .inr (List.mem_cons_of_mem _ h3)
theorem minF (l : List Int) : ∀ x : Int, l.foldl min x ≤ x ∧ (∀ y ∈ l, l.foldl min x ≤ y) ∧ (l.foldl min x = x ∨ l.foldl min x ∈ l) := by
  induction l with
  | nil => intro x; exact ⟨Int.le_refl _, by simp, .inl rfl⟩
  | cons z l ih =>
    intro x
    obtain ⟨h1, h2, h3⟩ := ih (min x z)
    refine ⟨Int.le_trans h1 (Int.min_le_left _ _), fun y hy => ?_, ?_⟩
    · rcases List.mem_cons.mp hy with e | hy
      · rw [e]; exact Int.le_trans h1 (Int.min_le_right _ _)
      · exact h2 y hy
    · rcases h3 with e | h3
      · have : (z :: l).foldl min x = min x z := e
        rw [this]
        rcases Int.le_total x z with q | q
        · rw [Int.min_eq_left q]; exact .inl rfl
        · rw [Int.min_eq_right q]; exact .inr (List.mem_cons_self ..)
      · exact .inr (List.mem_cons_of_mem _ h3)
theorem maxL_mem {l : List Int} (h : l ≠ []) : maxL l ∈ l := by
  cases l with
  | nil => exact absurd rfl h
  | cons x l =>
    rcases (maxF l x).2.2 with e | e
    · show l.foldl max x ∈ _
      rw [e]; exact List.mem_cons_self ..
    · exact List.mem_cons_of_mem _ e
theorem maxL_ge {l : List Int} {y : Int} (h : y ∈ l) : y ≤ maxL l := by
  cases l with
  | nil => simp at h
  | cons x l =>
    rcases List.mem_cons.mp h with e | e
    · rw [e]; exact (maxF l x).1
    · exact (maxF l x).2.1 y e
theorem minL_mem {l : List Int} (h : l ≠ []) : minL l ∈ l := by
  cases l with
  | nil => exact absurd rfl h
  | cons x l =>
    rcases (minF l x).2.2 with e | e
    · show l.foldl min x ∈ _
      rw [e]; exact List.mem_cons_self ..
    · exact List.mem_cons_of_mem _ e
theorem minL_le {l : List Int} {y : Int} (h : y ∈ l) : minL l ≤ y := by
  cases l with
  | nil => simp at h
  | cons x l =>
    rcases List.mem_cons.mp h with e | e
    · rw [e]; exact (minF l x).1
    · exact (minF l x).2.1 y e
section
variable {X : Cx} {e a b c : Expr} {t ta tb tc : TE3} {pos : Pos}
/-! ### a + b of any kind -/
def cAdd : C2 := fun r1 x y r Q => match x, y with
  | .d (.int i), .d (.int j) => Q (.d (.int (i + j))) r
  | .d (.str i), .d (.str j) => i.length + j.length ≤ sizeLine ∧ Q (.d (.str (i ++ j))) r
  | .d (.tuple l), .d (.tuple m) => l.length + m.length ≤ sizeLine ∧ Q (.d (.tuple (l ++ m))) r
  | .own _ l, .own _ m => r = r1 ∧ alld l = true ∧ alld m = true ∧ l.length + m.length ≤ sizeLine ∧ ∀ p, Q (.own p (l ++ m)) r
  | .own _ l, .d (.list m) => r = r1 ∧ alld l = true ∧ l.length + m.length ≤ sizeLine ∧ ∀ p, Q (.own p (l ++ m.map T.d)) r
  | .d (.list l), .own _ m => alld m = true ∧ l.length + m.length ≤ sizeLine ∧ ∀ p, Q (.own p (l.map T.d ++ m)) r
  | .d (.list l), .d (.list m) => l.length + m.length ≤ sizeLine ∧ ∀ p, Q (.own p (l.map T.d ++ m.map T.d)) r
  | _, _ => False
/-- a list's items as data -/
theorem own_data {K : PySem.W.Frag} {Z H : Hp} {p : Addr} {l : List T} {v : V} (h : RT K Z H (.own p l) v) (al : alld l = true) : ∃ xs, v = .ref p ∧ H p = some (.lst xs) ∧ DqAll K Z xs (fzs l) ∧ xs.length = l.length := by
  cases h with
  | own h1 h2 =>
    have e := rts_len h2
    rw [alld_eq al] at h2
    exact ⟨_, rfl, h1, dpa_of_rts h2, e.symm⟩
theorem con_add : Con2P X (fun x y H Q => (rI0 fun i j => .int (i + j)) x y H Q ∨ (∃ i j, x = .str i ∧ y = .str j ∧ i.length + j.length ≤ sizeLine ∧ Q (.str (i ++ j)) H) ∨ rCatA X.K x y H Q ∨ rCat x y H Q) cAdd :=
  fun G Z H ks vs r1 r s x y tx ty Q Q3 st px py hc k => by
    have cat : ∀ {a b : Addr} {xs zs : List V} {l m : List PyData}, H a = some (.lst xs) → H b = some (.lst zs) → DqAll X.K Z xs l → DqAll X.K Z zs m → xs.length + zs.length ≤ sizeLine → (∀ p, Q3 (.own p (l.map T.d ++ m.map T.d)) r) → rCat (.ref a) (.ref b) H Q :=
      fun {a b xs zs l m} h1 h2 d1 d2 hz q => ⟨a, b, xs, zs, rfl, rfl, h1, h2, hz, fun p hp => by
        have := st.newD (dpa_app d1 d2) hp
        rw [List.map_append] at this
        exact k Z _ _ _ r (Gr.refl _ _) this (q p)⟩
    unfold cAdd at hc
    split at hc
    · rename_i i j
      cases px.dat _ rfl
      cases py.int
      exact .inl ⟨i, j, rfl, rfl, k Z H (.d (.int (i + j))) _ r (Gr.refl _ _) (st.pushD (.int _)) hc⟩
    · rename_i i j
      cases px.dat _ rfl
      cases py.str
      exact .inr (.inl ⟨i, j, rfl, rfl, hc.1, k Z H (.d (.str _)) _ r (Gr.refl _ _) (st.pushD (.str _)) hc.2⟩)
    · rename_i l m
      have dx := px.dat _ rfl
      have dy : Dq X.K Z y (.tuple m) := py
      cases dx with
      | @tup a1 xs _ hx ax =>
        cases dy with
        | @tup a2 ys _ hy ay =>
          refine .inr (.inr (.inl ⟨a1, a2, xs, ys, rfl, rfl, SqT.of (st.zh _ _ hx), SqT.of (st.zh _ _ hy), by rw [← dpa_len ax, ← dpa_len ay]; exact hc.1, fun e => ?_, fun _ e => ?_, fun _ _ p hp => ?_⟩))
          · subst e
            cases ax
            exact k Z H _ _ r (Gr.refl _ _) (st.pushD (.tup hy ay)) hc.2
          · subst e
            cases ay
            refine k Z H _ _ r (Gr.refl _ _) (st.pushD (.tup hx ax)) ?_
            have h2 := hc.2
            rw [List.append_nil] at h2
            exact h2
          · obtain ⟨g4, st4⟩ := st.laidG (o := .tup (xs ++ ys)) hp
            exact k _ _ _ _ r g4 (st4.pushD (.tup upd_same (dpa_mono g4.sub _ _ (dpa_app ax ay)))) hc.2
    · rename_i a1 l a2 m
      obtain ⟨xs, rfl, h1, d1, e1⟩ := own_data ((px.same hc.1).now st) hc.2.1
      obtain ⟨zs, rfl, h2, d2, e2⟩ := own_data (py.now st) hc.2.2.1
      refine .inr (.inr (.inr (cat h1 h2 d1 d2 (by rw [e1, e2]; exact hc.2.2.2.1) ?_)))
      rw [← alld_eq hc.2.1, ← alld_eq hc.2.2.1]
      exact hc.2.2.2.2
    · rename_i a1 l m
      obtain ⟨xs, rfl, h1, d1, e1⟩ := own_data ((px.same hc.1).now st) hc.2.1
      cases (show Dq X.K Z y (.list m) from py) with
      | lst hs ha =>
        refine .inr (.inr (.inr (cat h1 (st.zh _ _ hs) d1 ha (by rw [e1, ← dpa_len ha]; exact hc.2.2.1) ?_)))
        rw [← alld_eq hc.2.1]
        exact hc.2.2.2
    · rename_i l a2 m
      obtain ⟨zs, rfl, h2, d2, e2⟩ := own_data (py.now st) hc.1
      cases px.dat _ rfl with
      | lst hs ha =>
        refine .inr (.inr (.inr (cat (st.zh _ _ hs) h2 ha d2 (by rw [e2, ← dpa_len ha]; exact hc.2.1) ?_)))
        rw [← alld_eq hc.1]
        exact hc.2.2
    · rename_i l m
      cases px.dat _ rfl with
      | lst hs ha =>
        cases (show Dq X.K Z y (.list m) from py) with
        | lst hs2 ha2 => exact .inr (.inr (.inr (cat (st.zh _ _ hs) (st.zh _ _ hs2) ha ha2 (by rw [← dpa_len ha, ← dpa_len ha2]; exact hc.1) hc.2)))
    · exact hc.elim
theorem p3_add (ha : R3 X a ta) (hb : R3 X b tb) : P3 X (.BinOp a .Add b pos) (x2 cAdd ta tb) := p3_op (op_add.or (op_add_str.or (op_catA.or op_cat))) con_add ha hb
/-! ### a * b of any kind -/
def cMul : C2 := fun r1 x y r Q => match x, y with
  | .d (.int i), .d (.int j) => MulOk i j ∧ Q (.d (.int (i * j))) r
  | .own _ l, .d (.int j) => r = r1 ∧ alld l = true ∧ 0 ≤ j ∧ l.length * j.toNat ≤ sizeLine ∧ l.length * j.toNat < 2 ^ 24 + 1 ∧ j < 2 ^ 63 ∧ ∀ p, Q (.own p (List.replicate j.toNat l).flatten) r
  | .d (.list l), .d (.int j) => 0 ≤ j ∧ l.length * j.toNat ≤ sizeLine ∧ j < 2 ^ 63 ∧ ∀ p, Q (.own p ((List.replicate j.toNat l).flatten.map T.d)) r
  | .d (.tuple l), .d (.int j) => l ≠ [] ∧ 2 ≤ j ∧ j ≤ 1000 ∧ l.length ≤ 1000 ∧ Q (.d (.tuple (List.replicate j.toNat l).flatten)) r
  | _, _ => False
theorem rep_map {α β : Type} (f : α → β) (n : Nat) (l : List α) : (List.replicate n l).flatten.map f = (List.replicate n (l.map f)).flatten := by
  induction n with
  | zero => rfl
  | succ n ih => rw [List.replicate_succ, List.flatten_cons, List.map_append, ih, List.replicate_succ, List.flatten_cons]
theorem con_mul : Con2P X (fun x y H Q => (rI MulOk fun i j => .int (i * j)) x y H Q ∨ rRep x y H Q ∨ rRepT X.K x y H Q) cMul :=
  fun G Z H ks vs r1 r s x y tx ty Q Q3 st px py hc k => by
    have rep : ∀ {a : Addr} {xs : List V} {l : List PyData} {j : Int}, H a = some (.lst xs) → DqAll X.K Z xs l → 0 ≤ j → l.length * j.toNat ≤ sizeLine → j < 2 ^ 63 → (∀ p, Q3 (.own p ((List.replicate j.toNat l).flatten.map T.d)) r) → rRep (.ref a) (.int j) H Q :=
      fun {a xs l j} h1 d1 j0 hz j63 q => ⟨a, j, xs, rfl, rfl, h1, by omega, j63, by rw [← dpa_len d1]; exact hz, fun p hp => k Z _ _ _ r (Gr.refl _ _) (st.newD (dpa_rep _ d1) hp) (q p)⟩
    unfold cMul at hc
    split at hc
    · rename_i i j
      cases px.dat _ rfl
      cases py.int
      exact .inl ⟨i, j, rfl, rfl, hc.1, k Z H (.d (.int (i * j))) _ r (Gr.refl _ _) (st.pushD (.int _)) hc.2⟩
    · rename_i a1 l j
      cases py.int
      obtain ⟨xs, rfl, h1, d1, e1⟩ := own_data ((px.same hc.1).now st) hc.2.1
      have e2 : (fzs l).length = l.length := by rw [dpa_len d1, e1]
      refine .inr (.inl (rep h1 d1 hc.2.2.1 (by rw [e2]; exact hc.2.2.2.1) hc.2.2.2.2.2.1 ?_))
      rw [rep_map, ← alld_eq hc.2.1]
      exact hc.2.2.2.2.2.2
    · rename_i l j
      cases py.int
      cases px.dat _ rfl with
      | lst hs ha => exact .inr (.inl (rep (st.zh _ _ hs) ha hc.1 hc.2.1 hc.2.2.1 hc.2.2.2))
    · rename_i l j
      cases py.int
      cases px.dat _ rfl with
      | @tup a1 xs _ hx ax =>
        refine .inr (.inr ⟨a1, j, xs, rfl, rfl, SqT.of (st.zh _ _ hx), fun e => hc.1 ?_, hc.2.1, hc.2.2.1, by rw [← dpa_len ax]; exact hc.2.2.2.1, fun p hp => ?_⟩)
        · subst e
          cases ax
          rfl
        · obtain ⟨g4, st4⟩ := st.laidG (o := .tup (List.replicate j.toNat xs).flatten) hp
          exact k _ _ _ _ r g4 (st4.pushD (.tup upd_same (dpa_mono g4.sub _ _ (dpa_rep _ ax)))) hc.2.2.2.2
    · exact hc.elim
theorem p3_mul (ha : R3 X a ta) (hb : R3 X b tb) : P3 X (.BinOp a .Mult b pos) (x2 cMul ta tb) := p3_op (op_mul3.or (op_rep.or op_repT)) con_mul ha hb
/-! ### built-in functions of one and of two arguments -/
abbrev C1 := T → TE3
def x1 (c : C1) (ta : TE3) : TE3 := fun r Q => ta r fun x r1 => c x r1 Q
def Con1 (X : Cx) (rd : List V → Hp → VK → Prop) (c : C1) : Prop := ∀ (G Z H : Hp) (ks : List T) (vs : List V) (r : Rho) (s : L2.St) (x : V) (tx : T) (Q : VK) (Q3 : T → Rho → Prop), S3 X.K G Z H ks vs r s → Pv X.K Z r s tx x → c tx r Q3 →
  (∀ Z' H' t v r', Gr G Z Z' → S3 X.K G Z' H' ks vs r' s → Pv X.K Z' r' s t v → Q3 t r' → Q v H') → rd [x] H Q
def Con1P (X : Cx) (rd : List V → Hp → VK → Prop) (c : C1) : Prop := ∀ (G Z H : Hp) (ks : List T) (vs : List V) (r : Rho) (s : L2.St) (x : V) (tx : T) (Q : VK) (Q3 : T → Rho → Prop), S3 X.K G Z H ks vs r s → Pv X.K Z r s tx x → c tx r Q3 →
  (∀ Z' H' t v r', Gr G Z Z' → S3 X.K G Z' H' (t :: ks) (v :: vs) r' s → Q3 t r' → Q v H') → rd [x] H Q
variable {id : String} {x : Str} {rd : List V → Hp → VK → Prop} {p : Pos}
theorem r3_callB {c : C1} (hc : CallR X (.builtin id) rd) (cn : Con1 X rd c) (hg : Gl X x) (hm : X.mg x = none) (hv : bootBuiltins x = some (.builtin id)) (ha : R3 X a ta) (hn : x ≠ "__name__" := by decide) (hdb : (x == ("__debug__" : Str)) = false := by decide)
    (he : starEach [a] X.env = (false, eval a X.env) :: starEach [] X.env := by rfl) (hpl : (backTo pos (starEach [] X.env)).any (·.1) = false := by rfl) : R3 X (.Call (.Name x p) [a] [] pos) (x1 c ta) := by
  obtain ⟨tea, ea, sa⟩ := ha.ex
  exact ⟨_, pe_callB hc hg hm hv (pa_cons ea pa_nil he) hn hdb he hpl, fun G Z H ks vs r s Q Q3 st ht k => sa G Z H ks vs r s _ _ st ht fun Z1 H1 x v r1 g1 st1 pv q =>
    cn G Z1 H1 ks vs r1 s v x Q Q3 st1 pv q fun Z2 H2 t w r2 g2 => k Z2 H2 t w r2 (g1.trans g2)⟩
theorem r3_callT {c : C1} (hc : CallR X (.type id) rd) (cn : Con1 X rd c) (hg : Gl X x) (hm : X.mg x = none) (hv : bootBuiltins x = some (.type id)) (ha : R3 X a ta) (hn : x ≠ "__name__" := by decide) (hdb : (x == ("__debug__" : Str)) = false := by decide)
    (he : starEach [a] X.env = (false, eval a X.env) :: starEach [] X.env := by rfl) (hpl : (backTo pos (starEach [] X.env)).any (·.1) = false := by rfl) : R3 X (.Call (.Name x p) [a] [] pos) (x1 c ta) := by
  obtain ⟨tea, ea, sa⟩ := ha.ex
  exact ⟨_, pe_callTy hc hg hm hv (pa_cons ea pa_nil he) hn hdb he hpl, fun G Z H ks vs r s Q Q3 st ht k => sa G Z H ks vs r s _ _ st ht fun Z1 H1 x v r1 g1 st1 pv q =>
    cn G Z1 H1 ks vs r1 s v x Q Q3 st1 pv q fun Z2 H2 t w r2 g2 => k Z2 H2 t w r2 (g1.trans g2)⟩
theorem p3_callT {c : C1} (hc : CallR X (.type id) rd) (cn : Con1P X rd c) (hg : Gl X x) (hm : X.mg x = none) (hv : bootBuiltins x = some (.type id)) (ha : R3 X a ta) (hn : x ≠ "__name__" := by decide) (hdb : (x == ("__debug__" : Str)) = false := by decide)
    (he : starEach [a] X.env = (false, eval a X.env) :: starEach [] X.env := by rfl) (hpl : (backTo pos (starEach [] X.env)).any (·.1) = false := by rfl) : P3 X (.Call (.Name x p) [a] [] pos) (x1 c ta) := by
  obtain ⟨tea, ea, sa⟩ := ha.ex
  exact ⟨_, pe_callTy hc hg hm hv (pa_cons ea pa_nil he) hn hdb he hpl, fun G Z H ks vs r s Q Q3 st ht k => sa G Z H ks vs r s _ _ st ht fun Z1 H1 x v r1 g1 st1 pv q =>
    cn G Z1 H1 ks vs r1 s v x Q Q3 st1 pv q fun Z2 H2 t w r2 g2 => k Z2 H2 t w r2 (g1.trans g2)⟩
theorem r3_callB2 {c : C2} (hc : CallR X (.builtin id) rd) (cn : Con2 X (fun x y => rd [x, y]) c) (hg : Gl X x) (hm : X.mg x = none) (hv : bootBuiltins x = some (.builtin id)) (ha : R3 X a ta) (hb : R3 X b tb) (hn : x ≠ "__name__" := by decide) (hdb : (x == ("__debug__" : Str)) = false := by decide)
    (he : starEach [a, b] X.env = (false, eval a X.env) :: starEach [b] X.env := by rfl) (he2 : starEach [b] X.env = (false, eval b X.env) :: starEach [] X.env := by rfl) (hpl : (backTo pos (starEach [b] X.env)).any (·.1) = false := by rfl) : R3 X (.Call (.Name x p) [a, b] [] pos) (x2 c ta tb) := by
  obtain ⟨tea, ea, sa⟩ := ha.ex
  obtain ⟨teb, eb, sb⟩ := hb.ex
  exact ⟨_, pe_callB hc hg hm hv (pa_cons ea (pa_cons eb pa_nil he2) he) hn hdb he hpl, fun G Z H ks vs r s Q Q3 st ht k => two_run cn sa sb G Z H ks vs r s Q Q3 st ht k⟩
/-- len(x) -/
def cLen : C1 := fun x r Q => match x with
  | .d (.list l) => Q (.d (.int l.length)) r
  | .d (.tuple l) => Q (.d (.int l.length)) r
  | .d (.str z) => z.length ≤ sizeLine ∧ Q (.d (.int z.length)) r
  | .sc _ ns => Q (.d (.int ns.length)) r
  | .own _ l => Q (.d (.int l.length)) r
  | .tp l => Q (.d (.int l.length)) r
  | _ => False
theorem con_len : Con1 X (fun xs H Q => ∃ x n, xs = [x] ∧ LenV X.K x H n ∧ Q (.int n) H) cLen := fun G Z H ks vs r s x tx Q Q3 st px hc k => by
  have fin : ∀ {n : Nat}, Q3 (.d (.int n)) r → Q (.int n) H := fun q => k Z H (.d (.int _)) _ r (Gr.refl _ _) st (Dq.int _) q
  unfold cLen at hc
  split at hc
  · cases (show Dq X.K Z x (.list _) from px) with
    | lst hs ha => exact ⟨_, _, rfl, .inl ⟨_, SqL.of (st.zh _ _ hs), rfl⟩, fin (by rw [← dpa_len ha]; exact hc)⟩
  · cases (show Dq X.K Z x (.tuple _) from px) with
    | tup hs ha => exact ⟨_, _, rfl, .inr ⟨_, SqT.of (st.zh _ _ hs), rfl⟩, fin (by rw [← dpa_len ha]; exact hc)⟩
  · cases px.str
    exact ⟨_, _, rfl, ⟨hc.1, rfl⟩, fin hc.2⟩
  · obtain ⟨rfl, hs⟩ := px
    exact ⟨_, _, rfl, .inl ⟨_, st.zh.L hs, rfl⟩, fin (by rw [List.length_map]; exact hc)⟩
  · have rt := px.now st
    cases rt with
    | own h1 h2 => exact ⟨_, _, rfl, .inl ⟨_, SqL.of h1, rfl⟩, fin (by rw [← rts_len h2]; exact hc)⟩
  · have rt := px.now st
    cases rt with
    | tp h1 h2 => exact ⟨_, _, rfl, .inr ⟨_, SqT.of (st.zh _ _ h1), rfl⟩, fin (by rw [← rts_len h2]; exact hc)⟩
  · exact hc.elim
theorem r3_len (hg : Gl X "len") (hm : X.mg "len" = none) (ha : R3 X a ta) (he : starEach [a] X.env = (false, eval a X.env) :: starEach [] X.env := by rfl) : R3 X (.Call (.Name "len" p) [a] [] pos) (x1 cLen ta) := r3_callB call_len con_len hg hm PySem.boot_len ha (by decide) (by decide) he
/-- abs(i) -/
def cAbs : C1 := fun x r Q => asI x fun i => Q (.d (.int i.natAbs)) r
theorem con_abs : Con1 X (fun xs H Q => ∃ i, xs = [.int i] ∧ Q (.int (if i < 0 then -i else i)) H) cAbs := fun G Z H ks vs r s x tx Q Q3 st px hc k => by
  obtain ⟨i, rfl, q⟩ := asI_of hc
  cases px.int
  have e : (if i < 0 then -i else i) = (i.natAbs : Int) := by split <;> omega
  refine ⟨i, rfl, ?_⟩
  rw [e]
  exact k Z H (.d (.int _)) _ r (Gr.refl _ _) st (Dq.int _) q
theorem r3_abs (hg : Gl X "abs") (hm : X.mg "abs" = none) (ha : R3 X a ta) (he : starEach [a] X.env = (false, eval a X.env) :: starEach [] X.env := by rfl) : R3 X (.Call (.Name "abs" p) [a] [] pos) (x1 cAbs ta) := r3_callB call_abs con_abs hg hm boot_abs ha (by decide) (by decide) he
/-- intL of a list -/
def asIs (t : T) (k : List Int → Prop) : Prop := match t with
  | .d (.list l) => allI l = true ∧ k (intL l)
  | .own _ l => alld l = true ∧ allI (fzs l) = true ∧ k (intL (fzs l))
  | .sc _ ns => k ns
  | _ => False
theorem asIs_of {K : PySem.W.Frag} {G Z H : Hp} {ks : List T} {vs : List V} {r : Rho} {s : L2.St} {t : T} {v : V} {k : List Int → Prop} (h : asIs t k) (st : S3 K G Z H ks vs r s) (p : Pv K Z r s t v) : ∃ a ns, v = .ref a ∧ SqL K H a (ns.map V.int) ∧ k ns := by
  unfold asIs at h
  split at h
  · rename_i l
    cases (show Dq K Z v (.list _) from p) with
    | @lst a xs _ hs ha =>
      have e := allI_eq h.1
      rw [e] at ha
      rw [dqa_inv ha] at hs
      exact ⟨a, _, rfl, SqL.of (st.zh _ _ hs), h.2⟩
  · rename_i a l
    obtain ⟨xs, rfl, h1, d1, _⟩ := own_data (p.now st) h.1
    rw [allI_eq h.2.1] at d1
    rw [dqa_inv d1] at h1
    exact ⟨a, _, rfl, SqL.of h1, h.2.2⟩
  · rename_i a ns
    exact ⟨a, ns, p.1, st.zh.L p.2, h⟩
  · exact h.elim
def cSum : C1 := fun x r Q => asIs x fun ns => Q (.d (.int ns.sum)) r
theorem con_sum : Con1 X (rSum X.K) cSum := fun G Z H ks vs r s x tx Q Q3 st px hc k => by
  obtain ⟨a, ns, rfl, hs, q⟩ := asIs_of hc st px
  exact ⟨a, ns, rfl, hs, k Z H (.d (.int _)) _ r (Gr.refl _ _) st (Dq.int _) q⟩
theorem r3_sum (hc : X.calm = true) (hg : Gl X "sum") (hm : X.mg "sum" = none) (ha : R3 X a ta) (he : starEach [a] X.env = (false, eval a X.env) :: starEach [] X.env := by rfl) : R3 X (.Call (.Name "sum" p) [a] [] pos) (x1 cSum ta) := r3_callB (cr_sum hc) con_sum hg hm boot_sum ha (by decide) (by decide) he
def cMaxL : C1 := fun x r Q => asIs x fun ns => ns ≠ [] ∧ Q (.d (.int (maxL ns))) r
def cMinL : C1 := fun x r Q => asIs x fun ns => ns ≠ [] ∧ Q (.d (.int (minL ns))) r
theorem con_max : Con1 X (rMax X.K) cMaxL := fun G Z H ks vs r s x tx Q Q3 st px hc k => by
  obtain ⟨a, ns, rfl, hs, hn, q⟩ := asIs_of hc st px
  refine ⟨a, ns, rfl, hs, List.length_pos_iff.mpr hn, fun m hm hy => ?_⟩
  have e : m = maxL ns := Int.le_antisymm (maxL_ge hm) (hy _ (maxL_mem hn))
  rw [e]
  exact k Z H (.d (.int _)) _ r (Gr.refl _ _) st (Dq.int _) q
theorem con_min : Con1 X (rMin X.K) cMinL := fun G Z H ks vs r s x tx Q Q3 st px hc k => by
  obtain ⟨a, ns, rfl, hs, hn, q⟩ := asIs_of hc st px
  refine ⟨a, ns, rfl, hs, List.length_pos_iff.mpr hn, fun m hm hy => ?_⟩
  have e : m = minL ns := Int.le_antisymm (hy _ (minL_mem hn)) (minL_le hm)
  rw [e]
  exact k Z H (.d (.int _)) _ r (Gr.refl _ _) st (Dq.int _) q
theorem r3_maxL (hc : X.calm = true) (hg : Gl X "max") (hm : X.mg "max" = none) (ha : R3 X a ta) (he : starEach [a] X.env = (false, eval a X.env) :: starEach [] X.env := by rfl) : R3 X (.Call (.Name "max" p) [a] [] pos) (x1 cMaxL ta) := r3_callB (cr_max hc) con_max hg hm boot_max ha (by decide) (by decide) he
theorem r3_minL (hc : X.calm = true) (hg : Gl X "min") (hm : X.mg "min" = none) (ha : R3 X a ta) (he : starEach [a] X.env = (false, eval a X.env) :: starEach [] X.env := by rfl) : R3 X (.Call (.Name "min" p) [a] [] pos) (x1 cMinL ta) := r3_callB (cr_min hc) con_min hg hm boot_min ha (by decide) (by decide) he
theorem con_max2 : Con2 X (fun x y H Q => ∃ i j, [x, y] = [V.int i, V.int j] ∧ Q (.int (if j > i then j else i)) H) (cI0 fun i j => .int (max i j)) := fun G Z H ks vs r1 r s x y tx ty Q Q3 st px py hc k => by
  obtain ⟨i, rfl, h1⟩ := asI_of hc
  obtain ⟨j, rfl, q⟩ := asI_of h1
  cases px.int
  cases py.int
  have e : (if j > i then j else i) = max i j := by split <;> omega
  refine ⟨i, j, rfl, ?_⟩
  rw [e]
  exact k Z H (.d (.int _)) _ r (Gr.refl _ _) st (Dq.int _) q
theorem con_min2 : Con2 X (fun x y H Q => ∃ i j, [x, y] = [V.int i, V.int j] ∧ Q (.int (if j < i then j else i)) H) (cI0 fun i j => .int (min i j)) := fun G Z H ks vs r1 r s x y tx ty Q Q3 st px py hc k => by
  obtain ⟨i, rfl, h1⟩ := asI_of hc
  obtain ⟨j, rfl, q⟩ := asI_of h1
  cases px.int
  cases py.int
  have e : (if j < i then j else i) = min i j := by split <;> omega
  refine ⟨i, j, rfl, ?_⟩
  rw [e]
  exact k Z H (.d (.int _)) _ r (Gr.refl _ _) st (Dq.int _) q
theorem r3_max2 (hc : X.calm = true) (hg : Gl X "max") (hm : X.mg "max" = none) (ha : R3 X a ta) (hb : R3 X b tb) (he : starEach [a, b] X.env = (false, eval a X.env) :: starEach [b] X.env := by rfl) (he2 : starEach [b] X.env = (false, eval b X.env) :: starEach [] X.env := by rfl) (hpl : (backTo pos (starEach [b] X.env)).any (·.1) = false := by rfl) :
    R3 X (.Call (.Name "max" p) [a, b] [] pos) (x2 (cI0 fun i j => .int (max i j)) ta tb) := r3_callB2 (call_max2 hc) con_max2 hg hm boot_max ha hb (by decide) (by decide) he he2 hpl
theorem r3_min2 (hc : X.calm = true) (hg : Gl X "min") (hm : X.mg "min" = none) (ha : R3 X a ta) (hb : R3 X b tb) (he : starEach [a, b] X.env = (false, eval a X.env) :: starEach [b] X.env := by rfl) (he2 : starEach [b] X.env = (false, eval b X.env) :: starEach [] X.env := by rfl) (hpl : (backTo pos (starEach [b] X.env)).any (·.1) = false := by rfl) :
    R3 X (.Call (.Name "min" p) [a, b] [] pos) (x2 (cI0 fun i j => .int (min i j)) ta tb) := r3_callB2 (call_min2 hc) con_min2 hg hm boot_min ha hb (by decide) (by decide) he he2 hpl
/-- tuple(x) -/
def cTup : C1 := fun x r Q => match x with
  | .d (.list l) => Q (.d (.tuple l)) r
  | .d (.tuple l) => Q (.d (.tuple l)) r
  | .own _ l => alld l = true ∧ Q (.d (.tuple (fzs l))) r
  | .sc _ ns => Q (.d (.tuple (ns.map PyData.int))) r
  | _ => False
theorem con_tup : Con1 X (fun xs H Q => ∃ p ys, xs = [.ref p] ∧ ((SqL X.K H p ys ∧ ∀ l, H l = none → Q (.ref l) (upd H l (.tup ys))) ∨ (SqT X.K H p ys ∧ Q (.ref p) H))) cTup := fun G Z H ks vs r s x tx Q Q3 st px hc k => by
  have new : ∀ {xs : List V} {l : List PyData}, DqAll X.K Z xs l → Q3 (.d (.tuple l)) r → ∀ p, H p = none → Q (.ref p) (upd H p (.tup xs)) := fun {xs l} hd q p hp => by
    obtain ⟨g4, st4⟩ := st.laidG (o := .tup xs) hp
    exact k _ _ (.d (.tuple l)) _ r g4 st4 (Dq.tup upd_same (dpa_mono g4.sub _ _ hd)) q
  unfold cTup at hc
  split at hc
  · cases (show Dq X.K Z x (.list _) from px) with
    | lst hs ha => exact ⟨_, _, rfl, .inl ⟨SqL.of (st.zh _ _ hs), new ha hc⟩⟩
  · cases (show Dq X.K Z x (.tuple _) from px) with
    | tup hs ha => exact ⟨_, _, rfl, .inr ⟨SqT.of (st.zh _ _ hs), k Z H (.d (.tuple _)) _ r (Gr.refl _ _) st (Dq.tup hs ha) hc⟩⟩
  · obtain ⟨xs, rfl, h1, d1, _⟩ := own_data (px.now st) hc.1
    exact ⟨_, _, rfl, .inl ⟨SqL.of h1, new d1 hc.2⟩⟩
  · obtain ⟨rfl, hs⟩ := px
    exact ⟨_, _, rfl, .inl ⟨st.zh.L hs, new (dqa_ints _) hc⟩⟩
  · exact hc.elim
theorem r3_tuple (hg : Gl X "tuple") (hm : X.mg "tuple" = none) (ha : R3 X a ta) (he : starEach [a] X.env = (false, eval a X.env) :: starEach [] X.env := by rfl) : R3 X (.Call (.Name "tuple" p) [a] [] pos) (x1 cTup ta) := r3_callT call_tuple_of con_tup hg hm boot_tuple ha (by decide) (by decide) he
/-- list(x) -/
def cLst : C1 := fun x r Q => match x with
  | .d (.list l) => ∀ p, Q (.own p (l.map T.d)) r
  | .d (.tuple l) => ∀ p, Q (.own p (l.map T.d)) r
  | .own _ l => alld l = true ∧ ∀ p, Q (.own p l) r
  | .sc _ ns => ∀ p, Q (.own p (ns.map fun n => T.d (.int n))) r
  | _ => False
theorem con_lst : Con1P X (fun xs H Q => ∃ p ys, xs = [.ref p] ∧ (SqL X.K H p ys ∨ SqT X.K H p ys) ∧ ∀ l, H l = none → Q (.ref l) (upd H l (.lst ys))) cLst := fun G Z H ks vs r s x tx Q Q3 st px hc k => by
  have new : ∀ {xs : List V} {l : List PyData}, DqAll X.K Z xs l → (∀ p, Q3 (.own p (l.map T.d)) r) → ∀ p, H p = none → Q (.ref p) (upd H p (.lst xs)) := fun {xs l} hd q p hp => k Z _ _ _ r (Gr.refl _ _) (st.newD hd hp) (q p)
  unfold cLst at hc
  split at hc
  · cases (show Dq X.K Z x (.list _) from px) with
    | lst hs ha => exact ⟨_, _, rfl, .inl (SqL.of (st.zh _ _ hs)), new ha hc⟩
  · cases (show Dq X.K Z x (.tuple _) from px) with
    | tup hs ha => exact ⟨_, _, rfl, .inr (SqT.of (st.zh _ _ hs)), new ha hc⟩
  · obtain ⟨xs, rfl, h1, d1, _⟩ := own_data (px.now st) hc.1
    exact ⟨_, _, rfl, .inl (SqL.of h1), new d1 (by rw [← alld_eq hc.1]; exact hc.2)⟩
  · obtain ⟨rfl, hs⟩ := px
    exact ⟨_, _, rfl, .inl (st.zh.L hs), new (dqa_ints _) (fun p => by rw [List.map_map]; exact hc p)⟩
  · exact hc.elim
theorem p3_list (hg : Gl X "list") (hm : X.mg "list" = none) (ha : R3 X a ta) (he : starEach [a] X.env = (false, eval a X.env) :: starEach [] X.env := by rfl) : P3 X (.Call (.Name "list" p) [a] [] pos) (x1 cLst ta) := p3_callT call_list_of con_lst hg hm boot_list ha (by decide) (by decide) he
/-- str(i) -/
def cStr : C1 := fun x r Q => asI x fun i => i.natAbs.log2 < 1920 ∧ Q (.d (.str (toString i))) r
theorem con_str : Con1 X (fun xs H Q => ∃ i, xs = [.int i] ∧ i.natAbs.log2 < 1920 ∧ Q (.str (toString i)) H) cStr := fun G Z H ks vs r s x tx Q Q3 st px hc k => by
  obtain ⟨i, rfl, h1, q⟩ := asI_of hc
  cases px.int
  exact ⟨i, rfl, h1, k Z H (.d (.str _)) _ r (Gr.refl _ _) st (Dq.str _) q⟩
theorem r3_str_ (hg : Gl X "str") (hm : X.mg "str" = none) (ha : R3 X a ta) (he : starEach [a] X.env = (false, eval a X.env) :: starEach [] X.env := by rfl) : R3 X (.Call (.Name "str" p) [a] [] pos) (x1 cStr ta) := r3_callT call_str_int con_str hg hm boot_str ha (by decide) (by decide) he
/-- int(x): an int, a truth, a text -/
def cInt : C1 := fun x r Q => match x with
  | .d (.int i) => Q (.d (.int i)) r
  | .d (.bool b) => Q (.d (.int (if b then 1 else 0))) r
  | .d (.str z) => ∃ n, PySem.intText? z = some n ∧ z.length ≤ 640 ∧ Q (.d (.int n)) r
  | _ => False
theorem con_int : Con1 X (fun xs H Q => ((∃ i, xs = [.int i] ∧ Q (.int i) H) ∨ ∃ k, xs = [.bl k] ∧ Q (.int (if k then 1 else 0)) H) ∨ ∃ a n, xs = [.str a] ∧ PySem.intText? a = some n ∧ a.length ≤ 640 ∧ Q (.int n) H) cInt := fun G Z H ks vs r s x tx Q Q3 st px hc k => by
  unfold cInt at hc
  split at hc
  · cases px.int
    exact .inl (.inl ⟨_, rfl, k Z H (.d (.int _)) _ r (Gr.refl _ _) st (Dq.int _) hc⟩)
  · cases px.bool
    exact .inl (.inr ⟨_, rfl, k Z H (.d (.int _)) _ r (Gr.refl _ _) st (Dq.int _) hc⟩)
  · cases px.str
    obtain ⟨n, h1, h2, q⟩ := hc
    exact .inr ⟨_, n, rfl, h1, h2, k Z H (.d (.int _)) _ r (Gr.refl _ _) st (Dq.int _) q⟩
  · exact hc.elim
theorem r3_int_ (hg : Gl X "int") (hm : X.mg "int" = none) (ha : R3 X a ta) (he : starEach [a] X.env = (false, eval a X.env) :: starEach [] X.env := by rfl) : R3 X (.Call (.Name "int" p) [a] [] pos) (x1 cInt ta) := r3_callT (call_int1.or call_int_str) con_int hg hm boot_int ha (by decide) (by decide) he
end
end L3
namespace L3
open PySem PySem.Spec PyProof.Rows L2
/-! ### a list of one's own is written -/
section
variable {K : PySem.W.Frag} {G Z H : Hp} {ks : List T} {vs : List V} {r : Rho} {s : L2.St} {t : T} {v : V} {a b : Addr} {l l' m m' : List T} {xs xs' : List V}
theorem S3.ownAt (h : S3 K G Z H (t :: .own a l :: ks) (v :: .ref a :: vs) r s) : ∃ xs, H a = some (.lst xs) ∧ RTs K Z H l xs ∧ RT K Z H t v ∧ RTs K Z H ks vs ∧ ct a t = 0 ∧ cts a l = 0 ∧ cts a ks = 0 ∧ cto a r = 0 := by
  have h1 := h.one a
  simp only [cts, ct, if_true] at h1
  cases h.stk with
  | cons q1 q2 =>
    cases q2 with
    | cons q3 q4 =>
      cases q3 with
      | own e1 e2 => exact ⟨_, e1, e2, q1, q4, by omega, by omega, by omega, by omega⟩
theorem S3.write (h : S3 K G Z H (t :: .own a l :: ks) (v :: .ref a :: vs) r s) (rl : RTs K Z H l' xs') (hc : ∀ b, cts b l' ≤ ct b t + cts b l) : S3 K G Z (upd H a (.lst xs')) (.own a l' :: ks) (.ref a :: vs) r s := by
  obtain ⟨xs, e1, e2, e3, e4, c1, c2, c3, c4⟩ := h.ownAt
  have own1 := h.ow a (by simp only [cts, ct, if_true]; omega)
  have keep : ∀ b, b ≠ a → ∀ o, H b = some o → upd H a (.lst xs') b = some o := fun b hb o e => by rw [upd_ne hb]; exact e
  have na : ∀ b, 0 < cts b l' → b ≠ a := fun b hb e => by subst e; have := hc b; omega
  refine ⟨fun b o e => keep b (fun q => by rw [q, own1.1] at e; cases e) o (h.zh b o e), fun b o e => keep b (fun q => by rw [q, own1.2] at e; cases e) o (h.gh b o e), fun b => ?_, fun b c => h.ow b ?_, .cons (.own upd_same (rts_mono (Sub.refl _) _ _ (fun b hb => keep b (na b hb)) rl)) (rts_mono (Sub.refl _) _ _ (fun b hb => keep b (fun q => by subst q; omega)) e4), fun i u e => ?_, h.len⟩
  · have h1 := h.one b
    have h2 := hc b
    simp only [cts, ct] at h1 ⊢
    omega
  · have h2 := hc b
    simp only [cts, ct] at c ⊢
    omega
  · obtain ⟨w, e1, q⟩ := h.slot i u e
    exact ⟨w, e1, rt_mono (Sub.refl _) _ _ (fun b hb => keep b (fun q => by subst q; have := cto_get b r i u e; omega)) q⟩
/-- an inner one -/
theorem S3.write2 {i : Nat} {ys' : List V} (h : S3 K G Z H (t :: .own a l :: ks) (v :: .ref a :: vs) r s) (hi : l[i]? = some (.own b m)) (rl : RTs K Z H m' ys') (hc : ∀ c, cts c m' ≤ ct c t + cts c m) :
    S3 K G Z (upd H b (.lst ys')) (.own a (l.set i (.own b m')) :: ks) (.ref a :: vs) r s := by
  obtain ⟨xs, e1, e2, e3, e4, c1, c2, c3, c4⟩ := h.ownAt
  have hb1 := cts_get b l i _ hi
  simp only [ct, if_true] at hb1
  have h1 := h.one b
  simp only [cts, ct] at h1
  have hab : a ≠ b := fun q => by subst q; omega
  rw [if_neg hab] at h1
  have own1 := h.ow b (by simp only [cts, ct]; omega)
  have keep : ∀ c, c ≠ b → ∀ o, H c = some o → upd H b (.lst ys') c = some o := fun c hc o e => by rw [upd_ne hc]; exact e
  have cset : ∀ c, cts c (l.set i (.own b m')) + cts c m = cts c l + cts c m' := fun c => by
    have := cts_set c l i _ (.own b m') hi
    simp only [ct] at this
    omega
  have nb : ∀ c, 0 < cts c m' → c ≠ b := fun c hc' e => by subst e; have := hc c; have := cts_get c l i _ hi; simp only [ct, if_true] at this; omega
  have items : ∀ {l : List T} {xs : List V} {i : Nat}, RTs K Z H l xs → l[i]? = some (.own b m) → cts b l ≤ 1 → RTs K Z (upd H b (.lst ys')) (l.set i (.own b m')) xs := by
    intro l
    induction l with
    | nil => intro xs i q e; simp at e
    | cons x l ih =>
      intro xs i q e cb
      cases q with
      | cons q1 q2 =>
        cases i with
        | zero =>
          have e' : x = .own b m := by simpa using e
          subst e'
          simp only [cts, ct, if_true] at cb
          cases q1 with
          | own k1 k2 => exact .cons (.own upd_same (rts_mono (Sub.refl _) _ _ (fun c hc => keep c (nb c hc)) rl)) (rts_mono (Sub.refl _) _ _ (fun c hc => keep c (fun q => by subst q; omega)) q2)
        | succ i =>
          have e' : l[i]? = some (.own b m) := by simpa using e
          have := cts_get b l i _ e'
          simp only [ct, if_true] at this
          simp only [cts] at cb
          exact .cons (rt_mono (Sub.refl _) _ _ (fun c hc => keep c (fun q => by subst q; omega)) q1) (ih q2 e' (by omega))
  refine ⟨fun c o e => keep c (fun q => by rw [q, own1.1] at e; cases e) o (h.zh c o e), fun c o e => keep c (fun q => by rw [q, own1.2] at e; cases e) o (h.gh c o e), fun c => ?_, fun c k => h.ow c ?_, .cons (.own (keep a hab _ e1) (items e2 hi (by omega))) (rts_mono (Sub.refl _) _ _ (fun c hc => keep c (fun q => by subst q; omega)) e4), fun j u e => ?_, h.len⟩
  · have h2 := h.one c
    have h3 := cset c
    have h4 := hc c
    simp only [cts, ct] at h2 ⊢
    omega
  · have h3 := cset c
    have h4 := hc c
    simp only [cts, ct] at k ⊢
    omega
  · obtain ⟨w, e1, q⟩ := h.slot j u e
    exact ⟨w, e1, rt_mono (Sub.refl _) _ _ (fun c hc => keep c (fun q => by subst q; have := cto_get c r j u e; omega)) q⟩
theorem rts_set : ∀ {l : List T} {xs : List V} (i : Nat), RTs K Z H l xs → RT K Z H t v → RTs K Z H (l.set i t) (xs.set i v)
  | _, _, _, .nil, _ => .nil
  | _, _, 0, .cons _ q, h => .cons h q
  | _, _, i + 1, .cons p q, h => .cons p (rts_set i q h)
theorem rts_snoc {l : List T} {xs : List V} (q : RTs K Z H l xs) (h : RT K Z H t v) : RTs K Z H (l ++ [t]) (xs ++ [v]) := rts_app q (.cons h .nil)
end
/-! ### a call of a def -/
inductive Arg where
  | val (t : T) | io (i : Nat)
def ArgOk (K : PySem.W.Frag) (Z : Hp) (s : L2.St) (x : Arg) (v : V) : Prop :=
  match x with
  | .val (.d x) => Dq K Z v x
  | .val (.v x) => v = x
  | .val (.sc a ns) => v = .ref a ∧ SqL K Z a (ns.map V.int)
  | .val _ => False
  | .io i => s[i]? = some (some v)
theorem ArgOk.keep {K : PySem.W.Frag} {Z Z' : Hp} {s : L2.St} {x : Arg} {v : V} (h : ArgOk K Z s x v) (z : Sub Z Z') : ArgOk K Z' s x v := by
  cases x with
  | io i => exact h
  | val t =>
    cases t with
    | d x => exact dp_mono z x v h
    | v x => exact h
    | sc a ns => exact ⟨h.1, z.L h.2⟩
    | own _ _ => exact h
    | tp _ => exact h
abbrev TC3 := Rho → (List Arg → Rho → Prop) → Prop
structure C3 (X : Cx) (es : List Expr) (t : TC3) : Prop where
  ex : ∃ te : TA, PA X es te ∧ ∀ (G Z H : Hp) (ks : List T) (vs : List V) (r : Rho) (s : L2.St) (Q : List V → Hp → Prop) (Q3 : List Arg → Rho → Prop), S3 X.K G Z H ks vs r s → t r Q3 →
    (∀ Z' H' xs us r', Gr G Z Z' → S3 X.K G Z' H' ks vs r' s → Paired (ArgOk X.K Z' s) xs us → Q3 xs r' → Q us H') → te s H Q
section
variable {X : Cx} {e : Expr} {es : List Expr} {t : TE3} {u : TC3} {pos : Pos}
def xANil : TC3 := fun r Q => Q [] r
theorem c3_nil : C3 X [] xANil := ⟨_, pa_nil, fun G Z H ks vs r s Q Q3 st ht k => k Z H [] [] r (Gr.refl _ _) st .nil ht⟩
def xArg (t : TE3) (u : TC3) : TC3 := fun r Q => t r fun x r1 => match x with | .d y => u r1 fun as r2 => Q (.val (.d y) :: as) r2 | .v y => u r1 fun as r2 => Q (.val (.v y) :: as) r2 | .sc a ns => u r1 fun as r2 => Q (.val (.sc a ns) :: as) r2 | _ => False
theorem c3_val (ha : R3 X e t) (hr : C3 X es u) (hs : starEach (e :: es) X.env = (false, eval e X.env) :: starEach es X.env := by rfl) : C3 X (e :: es) (xArg t u) := by
  obtain ⟨tea, ea, sa⟩ := ha.ex
  obtain ⟨ter, er, sr⟩ := hr.ex
  refine ⟨_, pa_cons ea er hs, fun G Z H ks vs r s Q Q3 st ht k => sa G Z H ks vs r s _ _ st ht fun Z1 H1 x v r1 g1 st1 pv q1 => ?_⟩
  have fin : ∀ x : T, (∀ Z', Sub Z1 Z' → ArgOk X.K Z' s (.val x) v) → u r1 (fun as r2 => Q3 (.val x :: as) r2) → ter s H1 (fun us H2 => Q (v :: us) H2) := fun x ok q => sr G Z1 H1 ks vs r1 s _ _ st1 q fun Z2 H2 xs us r2 g2 st2 hp q2 =>
    k Z2 H2 (.val x :: xs) (v :: us) r2 (g1.trans g2) st2 (.cons (ok Z2 g2.sub) hp) q2
  cases x with
  | d y => exact fin (.d y) (fun Z' z => dp_mono z y v pv) q1
  | v y => exact fin (.v y) (fun Z' z => pv) q1
  | sc a ns => exact fin (.sc a ns) (fun Z' z => ⟨pv.1, z.L pv.2⟩) q1
  | own _ _ => exact q1.elim
  | tp _ => exact q1.elim
def xIo (i : Nat) (u : TC3) : TC3 := fun r Q => match r[i]? with | some (some _) => u r fun as r2 => Q (.io i :: as) r2 | _ => False
theorem c3_io (i : Nat) {x : Str} {p : Pos} (hr : C3 X es u) (hN : X.N[i]? = some x := by rfl) (hv : Vis X.env.scope x := by first | exact Or.inl rfl | exact Or.inr (Or.inl rfl) | exact Or.inr (Or.inr rfl)) (hd : (x == ("__debug__" : Str)) = false := by decide)
    (hcd : (x == ("__classdict__" : Str)) = false := by decide) (hs : starEach (.Name x p :: es) X.env = (false, eval (.Name x p) X.env) :: starEach es X.env := by rfl) : C3 X (.Name x p :: es) (xIo i u) := by
  obtain ⟨ter, er, sr⟩ := hr.ex
  refine ⟨_, pa_cons (pe_var hN hv hd hcd) er hs, fun G Z H ks vs r s Q Q3 st ht k => ?_⟩
  unfold xIo at ht
  split at ht
  · rename_i t e
    obtain ⟨v, ev, _⟩ := st.slot i t e
    exact ⟨v, ev, sr G Z H ks vs r s _ _ st ht fun Z2 H2 xs us r2 g2 st2 hp q2 => k Z2 H2 (.io i :: xs) (v :: us) r2 g2 st2 (.cons ev hp) q2⟩
  · exact ht.elim
end
def looks (r : Rho) : List Arg → Option (List T)
  | [] => some []
  | .val t :: as => (looks r as).map (t :: ·)
  | .io i :: as => match r[i]? with
    | some (some t) => (looks r as).map (t :: ·)
    | _ => none
def ios : List Arg → List Nat
  | [] => []
  | .val _ :: as => ios as
  | .io i :: as => i :: ios as
def puts (r : Rho) : List Arg → List T → Rho
  | .val _ :: as, _ :: ts => puts r as ts
  | .io i :: as, t :: ts => puts (r.set i (some t)) as ts
  | _, _ => r
def outs (r : Rho) : List Arg → Rho
  | [] => r
  | .val _ :: as => outs r as
  | .io i :: as => (outs r as).set i none
theorem outs_len (r : Rho) : ∀ as, (outs r as).length = r.length
  | [] => rfl
  | .val _ :: as => outs_len r as
  | .io i :: as => by show ((outs r as).set i none).length = _; rw [List.length_set, outs_len r as]
theorem outs_get {r : Rho} {j : Nat} : ∀ {as : List Arg}, j ∉ ios as → (outs r as)[j]? = r[j]?
  | [], _ => rfl
  | .val _ :: as, h => outs_get (as := as) h
  | .io i :: as, h => by
    have h1 : j ≠ i := fun e => h (by rw [e]; exact List.mem_cons_self ..)
    have h2 : j ∉ ios as := fun e => h (List.mem_cons_of_mem _ e)
    show ((outs r as).set i none)[j]? = _
    rw [List.getElem?_set_ne (Ne.symm h1)]
    exact outs_get h2
/-- a promise, by values: the arguments (lists of one's own may be changed), what is handed back and the arguments behind the call; an exception's class and the arguments -/
abbrev Sp3 := List T → (T → List T → Prop) → (Addr → List T → Prop) → Prop
def lift (K : PySem.W.Frag) (sp : Sp3) : Sp := fun vs H Q E => ∃ (G Z : Hp) (ts : List T) (Q3 : T → List T → Prop) (E3 : Addr → List T → Prop), S3 K G Z H ts vs [] [] ∧ sp ts Q3 E3 ∧
  (∀ Z' H' x v ts', Gr G Z Z' → S3 K G Z' H' (x :: ts') (v :: vs) [] [] → Q3 x ts' → Q v H') ∧
  (∀ Z' H' C ts', Gr G Z Z' → S3 K G Z' H' ts' vs [] [] → E3 C ts' → E (.ref C) none H')
section
variable {K : PySem.W.Frag} {G Z H : Hp} {ks : List T} {vs : List V} {r : Rho} {s : L2.St}
/-- the arguments taken out of the slots -/
theorem S3.args (h : S3 K G Z H ks vs r s) : ∀ {as : List Arg} {us : List V} {ts : List T}, Paired (ArgOk K Z s) as us → looks r as = some ts → (ios as).Nodup → ts.length = us.length ∧ S3 K G Z H (ts ++ ks) (us ++ vs) (outs r as) s
  | [], _, ts, .nil, e, _ => by
    cases e
    exact ⟨rfl, h⟩
  | .val t :: as, _, ts, .cons p q, e, nd => by
    simp only [looks, Option.map_eq_some_iff] at e
    obtain ⟨ts', e1, rfl⟩ := e
    obtain ⟨hl, st⟩ := h.args q e1 nd
    refine ⟨by simp [hl], ?_⟩
    cases t with
    | d x => exact st.pushD p
    | v x => exact st.push (fun _ => rfl) (by rw [show _ = x from p]; exact .v)
    | sc a ns => exact st.push (fun _ => rfl) (by rw [show _ = V.ref a from p.1]; exact .sc p.2)
    | own _ _ => exact p.elim
    | tp _ => exact p.elim
  | .io i :: as, _, ts, .cons p q, e, nd => by
    simp only [looks] at e
    split at e
    · rename_i t ht
      simp only [Option.map_eq_some_iff] at e
      obtain ⟨ts', e1, rfl⟩ := e
      have nd' : i ∉ ios as ∧ (ios as).Nodup := by
        have : (i :: ios as).Nodup := nd
        rw [List.nodup_cons] at this
        exact this
      obtain ⟨hl, st⟩ := h.args q e1 nd'.2
      refine ⟨by simp [hl], ?_⟩
      obtain ⟨v, ev, st2⟩ := st.take (i := i) (t := t) (by rw [outs_get nd'.1]; exact ht)
      have e2 : s[i]? = some (some _) := p
      rw [ev] at e2
      cases e2
      exact st2
    · cases e
theorem S3.ret : ∀ {as : List Arg} {us : List V} {ts : List T} {r r0 : Rho}, Paired (ArgOk K Z s) as us → ts.length = us.length → (ios as).Nodup → r0.length = r.length → (∀ i, i ∉ ios as → r0[i]? = r[i]?) → (∀ i ∈ ios as, r0[i]? = some none ∨ r0[i]? = none) → S3 K G Z H (ts ++ ks) (us ++ vs) r0 s → S3 K G Z H ks vs (puts r as ts) s
  | [], _, [], r, r0, .nil, _, _, hl, hr, _, h => by
    have e : r0 = r := List.ext_getElem? fun i => hr i (by simp [ios])
    rw [e] at h
    exact h
  | [], _, _ :: _, _, _, .nil, hl, _, _, _, _, _ => by simp at hl
  | .val t :: as, _, [], _, _, .cons p q, hl, _, _, _, _, _ => by simp at hl
  | .io t :: as, _, [], _, _, .cons p q, hl, _, _, _, _, _ => by simp at hl
  | .val t :: as, _, t' :: ts, r, r0, .cons p q, hl, nd, hl0, hr, hn, h => S3.ret (as := as) q (by simpa using hl) nd hl0 hr hn h.pop
  | .io i :: as, _, t' :: ts, r, r0, .cons p q, hl, nd, hl0, hr, hn, h => by
    have nd' : i ∉ ios as ∧ (ios as).Nodup := by
      have : (i :: ios as).Nodup := nd
      rw [List.nodup_cons] at this
      exact this
    by_cases hi : i < r0.length
    · have st := h.back hi p
      refine S3.ret (as := as) (r := r.set i (some t')) q (by simpa using hl) nd'.2 (by rw [List.length_set, List.length_set]; exact hl0) (fun j hj => ?_) (fun j hj => ?_) st
      · by_cases e : j = i
        · subst e
          rw [List.getElem?_set_self hi, List.getElem?_set_self (by omega)]
        · rw [List.getElem?_set_ne (Ne.symm e), List.getElem?_set_ne (Ne.symm e)]
          refine hr j fun z => ?_
          rcases List.mem_cons.mp z with z | z
          · exact e z
          · exact hj z
      · have e : j ≠ i := fun e => nd'.1 (e ▸ hj)
        rw [List.getElem?_set_ne (Ne.symm e)]
        exact hn j (List.mem_cons_of_mem _ hj)
    · have h2 := h.len
      have : i < s.length := (List.getElem?_eq_some_iff.mp (show s[i]? = some (some _) from p)).1
      omega
end
section
variable {X : Cx} {es : List Expr} {e : Expr} {u : TC3} {pos p : Pos} {sp : Sp3} {k : Nat} {f : Addr} {fd : FuncData} {ps : List Str} {x : Str}
def xCall (sp : Sp3) (E : Addr → List T → Prop) (u : TC3) : TE3 := fun r Q => u r fun as r1 => match looks r1 as with
  | some ts => (ios as).Nodup ∧ sp ts (fun x ts' => Q x (puts r1 as ts')) E
  | none => False
theorem outs_none {r : Rho} : ∀ {as : List Arg} {i : Nat}, i ∈ ios as → (outs r as)[i]? = some none ∨ (outs r as)[i]? = none
  | [], i, h => by simp [ios] at h
  | .val _ :: as, i, h => outs_none (as := as) h
  | .io j :: as, i, h => by
    show ((outs r as).set j none)[i]? = some none ∨ ((outs r as).set j none)[i]? = none
    by_cases e : i = j
    · subst e
      by_cases hi : i < (outs r as).length
      · left; rw [List.getElem?_set_self hi]
      · right; exact List.getElem?_eq_none (by rw [List.length_set]; omega)
    · rw [List.getElem?_set_ne (Ne.symm e)]
      rcases List.mem_cons.mp h with z | z
      · exact absurd z e
      · exact outs_none z
/-- from the caller's state to the callee's promise -/
theorem call_run {G Z H : Hp} {ks : List T} {vs : List V} {r : Rho} {s : L2.St} {as : List Arg} {us : List V} {Q : VK} {E : XK} {Q3 : T → Rho → Prop} {E3 : Addr → List T → Prop} (st : S3 X.K G Z H ks vs r s) (hp : Paired (ArgOk X.K Z s) as us)
    (h : match looks r as with | some ts => (ios as).Nodup ∧ sp ts (fun x ts' => Q3 x (puts r as ts')) E3 | none => False)
    (kq : ∀ Z' H' x v r', Gr G Z Z' → S3 X.K G Z' H' (x :: ks) (v :: vs) r' s → Q3 x r' → Q v H')
    (ke : ∀ Z' H' C ts' r', Gr G Z Z' → S3 X.K G Z' H' ks vs r' s → r' = puts r as ts' → E3 C ts' → E (.ref C) none H') : lift X.K sp us H Q E := by
  split at h
  · rename_i ts hl
    obtain ⟨nd, hsp⟩ := h
    obtain ⟨hlen, st1⟩ := st.args hp hl nd
    have splt : ∀ {Z H : Hp} {l : List T} {xs : List V}, l.length = xs.length → RTs X.K Z H (l ++ ks) (xs ++ vs) → RTs X.K Z H l xs ∧ RTs X.K Z H ks vs := by
      intro Z H l
      induction l with
      | nil => intro xs hl q; cases xs with | nil => exact ⟨.nil, q⟩ | cons _ _ => simp at hl
      | cons t l ih =>
        intro xs hl q
        cases xs with
        | nil => simp at hl
        | cons x xs =>
          cases q with
          | cons q1 q2 =>
            obtain ⟨z1, z2⟩ := ih (by simpa using hl) q2
            exact ⟨.cons q1 z1, z2⟩
    obtain ⟨s1, s2⟩ := splt hlen st1.stk
    -- the callee's part
    have sub : S3 X.K (fun a => if 0 < cts a ts then none else H a) Z H ts us [] [] := ⟨st1.zh, fun a o e => by
        by_cases c : 0 < cts a ts
        · simp [c] at e
        · simpa [c] using e, fun a => by have := st1.one a; rw [cts_append] at this; simp only [cto]; omega, fun a c => by
        simp only [cto, Nat.add_zero] at c
        exact ⟨(st1.ow a (by rw [cts_append]; omega)).1, if_pos c⟩, s1, fun i t e => by simp at e, rfl⟩
    -- behind the call
    have gr : ∀ {Z'}, Gr (fun a => if 0 < cts a ts then none else H a) Z Z' → Gr G Z Z' := fun {Z'} g => ⟨g.sub, fun a o e n => by
      have h1 : H a = some o := st1.gh a o e
      have h2 : ¬ 0 < cts a ts := fun c => by have := (st1.ow a (by rw [cts_append]; omega)).2; rw [this] at e; cases e
      exact g.out a o (by rw [if_neg h2]; exact h1) n⟩
    have back : ∀ {Z' H' : Hp} {ys : List T} {ws : List V}, Gr (fun a => if 0 < cts a ts then none else H a) Z Z' → ys.length = ws.length → S3 X.K (fun a => if 0 < cts a ts then none else H a) Z' H' ys ws [] [] → S3 X.K G Z' H' (ys ++ ks) (ws ++ vs) (outs r as) s := fun {Z' H' ys ws} g hy st2 => by
      have other : ∀ a, 0 < cts a ks + cto a (outs r as) → cts a ts = 0 ∧ (∃ xs, H a = some (.lst xs)) ∧ H' a = H a ∧ cts a ys = 0 ∧ Z' a = none := fun a c => by
        have h1 := st1.one a
        rw [cts_append] at h1
        have h0 : cts a ts = 0 := by omega
        obtain ⟨xs, e⟩ := st1.owned (a := a) (by rw [cts_append]; omega)
        have e2 : (fun a => if 0 < cts a ts then none else H a) a = some (.lst xs) := by show (if 0 < cts a ts then none else H a) = _; rw [if_neg (by omega)]; exact e
        have e3 := st2.gh a _ e2
        refine ⟨h0, ⟨xs, e⟩, by rw [e3, e], ?_, g.out a _ e2 (st1.ow a (by rw [cts_append]; omega)).1⟩
        by_cases c2 : 0 < cts a ys
        · have := (st2.ow a (by omega)).2
          have e4 : (if 0 < cts a ts then none else H a) = some (HO.lst xs) := e2
          have e5 : (if 0 < cts a ts then none else H a) = none := this
          rw [e4] at e5; cases e5
        · omega
      refine ⟨st2.zh, fun a o e => ?_, fun a => ?_, fun a c => ?_, ?_, fun i t e => ?_, st1.len⟩
      · have h1 : H a = some o := st1.gh a o e
        have h2 : ¬ 0 < cts a ts := fun c => by have := (st1.ow a (by rw [cts_append]; omega)).2; rw [this] at e; cases e
        exact st2.gh a o (by show (if 0 < cts a ts then none else H a) = _; rw [if_neg h2]; exact h1)
      · rw [cts_append]
        by_cases c : 0 < cts a ks + cto a (outs r as)
        · obtain ⟨_, _, _, h4, _⟩ := other a c
          have h1 := st1.one a
          rw [cts_append] at h1
          omega
        · have h2 := st2.one a
          simp only [cto] at h2
          omega
      · rw [cts_append] at c
        by_cases c2 : 0 < cts a ks + cto a (outs r as)
        · obtain ⟨h0, _, _, _, h5⟩ := other a c2
          exact ⟨h5, (st1.ow a (by rw [cts_append]; omega)).2⟩
        · have c3 : 0 < cts a ys + cto a ([] : Rho) := by simp only [cto]; omega
          obtain ⟨z1, z2⟩ := st2.ow a c3
          refine ⟨z1, ?_⟩
          cases q : G a with
          | none => rfl
          | some o =>
            have h1 : H a = some o := st1.gh a o q
            have h2 : ¬ 0 < cts a ts := fun c => by have := (st1.ow a (by rw [cts_append]; omega)).2; rw [this] at q; cases q
            have z2' : (if 0 < cts a ts then none else H a) = none := z2
            rw [if_neg h2, h1] at z2'; cases z2'
      · exact rts_app st2.stk (rts_mono g.sub _ _ (fun a c o e => by rw [(other a (by omega)).2.2.1]; exact e) s2)
      · obtain ⟨w, e1, q⟩ := st1.slot i t e
        exact ⟨w, e1, rt_mono g.sub _ _ (fun a c o e' => by rw [(other a (by have := cto_get a (outs r as) i t e; omega)).2.2.1]; exact e') q⟩
    refine ⟨_, Z, ts, _, _, sub, hsp, fun Z' H' x v ts' g st2 q => ?_, fun Z' H' C ts' g st2 q => ?_⟩
    · have hl2 : (x :: ts').length = (v :: us).length := rts_len st2.stk
      have st3 := back g hl2 st2
      have hl3 : ts'.length = us.length := by simpa using hl2
      have st4 : S3 X.K G Z' H' (ts' ++ x :: ks) (us ++ v :: vs) (outs r as) s := S3.mid' hl3 st3
      exact kq Z' H' x v _ (gr g) (S3.ret (Paired.mapP hp fun a b z => z.keep g.sub) hl3 nd (outs_len r as) (fun i hi => outs_get hi) (fun i hi => outs_none hi) st4) q
    · have hl2 : ts'.length = us.length := rts_len st2.stk
      have st3 := back g hl2 st2
      exact ke Z' H' C ts' _ (gr g) (S3.ret (Paired.mapP hp fun a b z => z.keep g.sub) hl2 nd (outs_len r as) (fun i hi => outs_get hi) (fun i hi => outs_none hi) st3) rfl q
  · exact h.elim
/-- f(..) of a def that raises nothing -/
theorem p3_call (F : FnOk X.prog X.w X.K X.mg X.base CX0 k f fd ps (lift X.K sp)) (hr : Room k X.A) (hg : Gl X x) (hm : X.mg x = some (.ref f)) (hk : PySem.W.keepIn X.K (.ref f) = true) (hb : Binds X.K fd ps []) (hu : C3 X (e :: es) u)
    (hdb : (x == ("__debug__" : Str)) = false := by decide) (he : starEach (e :: es) X.env = (false, eval e X.env) :: starEach es X.env := by rfl) (hpl : (backTo pos (starEach es X.env)).any (·.1) = false := by rfl) :
    P3 X (.Call (.Name x p) (e :: es) [] pos) (xCall sp (fun _ _ => False) u) := by
  obtain ⟨te, ea, sa⟩ := hu.ex
  refine ⟨_, pe_call F hr hg hm hk hb .nil pass0 ea hdb he hpl, fun G Z H ks vs r s Q Q3 st ht kk => sa G Z H ks vs r s _ _ st ht fun Z1 H1 as us r1 g1 st1 hp q => ?_⟩
  rw [List.append_nil]
  exact call_run st1 hp q (fun Z' H' x v r' g => kk Z' H' x v r' (g1.trans g)) fun _ _ _ _ _ _ _ _ z => z.elim
end
end L3
namespace L3
open PySem PySem.Spec PyProof.Rows L2
structure Ends3 where
  nx : Rho → Prop
  rt : T → Rho → Prop
  bk : Rho → Prop := fun _ => False
  ct : Rho → Prop := fun _ => False
  ex : Addr → Rho → Prop := fun _ _ => False
abbrev TS3 := Ends3 → Rho → Prop
/-- what is wanted by values is what is wanted -/
structure Imp (K : PySem.W.Frag) (W : WX) (G Z : Hp) (D3 : Ends3) (D : Ends) : Prop where
  nx : ∀ Z' H' r s, Gr G Z Z' → S3 K G Z' H' [] [] r s → D3.nx r → D.nx s H'
  rt : ∀ Z' H' r s x v, Gr G Z Z' → S3 K G Z' H' [x] [v] r s → D3.rt x r → D.rt v H'
  bk : ∀ Z' H' r s, Gr G Z Z' → S3 K G Z' H' [] [] r s → D3.bk r → D.bk s H'
  ct : ∀ Z' H' r s, Gr G Z Z' → S3 K G Z' H' [] [] r s → D3.ct r → D.ct s H'
  ex : ∀ Z' H' C r s, Gr G Z Z' → S3 K G Z' H' [] [] r s → D3.ex C r → W (.ref C) none s H'
theorem Imp.mono {K : PySem.W.Frag} {W : WX} {G Z Z1 : Hp} {D3 : Ends3} {D : Ends} (h : Imp K W G Z D3 D) (g : Gr G Z Z1) : Imp K W G Z1 D3 D :=
  ⟨fun Z' H' r s g' => h.nx Z' H' r s (g.trans g'), fun Z' H' r s x v g' => h.rt Z' H' r s x v (g.trans g'), fun Z' H' r s g' => h.bk Z' H' r s (g.trans g'), fun Z' H' r s g' => h.ct Z' H' r s (g.trans g'), fun Z' H' C r s g' => h.ex Z' H' C r s (g.trans g')⟩
/-- a statement; a block -/
structure M3 (X : Cx) (st : Stmt) (t : TS3) : Prop where
  ex : ∀ W : WX, Takes X W → ∃ te : TS, PS X st te ∧ ∀ (G Z H : Hp) (r : Rho) (s : L2.St) (D : Ends) (D3 : Ends3), S3 X.K G Z H [] [] r s → t D3 r → Imp X.K W G Z D3 D → te D s H
structure B3 (X : Cx) (st : List Stmt) (t : TS3) : Prop where
  ex : ∀ W : WX, Takes X W → ∃ te : TS, PSs X st te ∧ ∀ (G Z H : Hp) (r : Rho) (s : L2.St) (D : Ends) (D3 : Ends3), S3 X.K G Z H [] [] r s → t D3 r → Imp X.K W G Z D3 D → te D s H
section
variable {X : Cx} {st : Stmt} {rest body : List Stmt} {t u : TS3} {e : Expr} {te : TE3} {tt : TT3} {pos : Pos}
def xNext : TS3 := fun D r => D.nx r
def xSeq (t u : TS3) : TS3 := fun D r => t { D with nx := u D } r
theorem b3_nil : B3 X [] xNext := ⟨fun _ _ => ⟨_, pss_nil, fun G Z H r s D D3 st ht im => im.nx Z H r s (Gr.refl _ _) st ht⟩⟩
theorem b3_cons (h1 : M3 X st t) (h2 : B3 X rest u) : B3 X (st :: rest) (xSeq t u) := by
  refine ⟨fun Wx tk => ?_⟩
  obtain ⟨tea, ea, sa⟩ := h1.ex Wx tk
  obtain ⟨teb, eb, sb⟩ := h2.ex Wx tk
  exact ⟨_, pss_cons ea eb, fun G Z H r s D D3 st ht im => sa G Z H r s _ _ st ht ⟨fun Z' H' r' s' g st' q => sb G Z' H' r' s' D D3 st' q (im.mono g), im.rt, im.bk, im.ct, im.ex⟩⟩
theorem b3_one (h1 : M3 X st t) : B3 X [st] t := by
  refine ⟨fun Wx tk => ?_⟩
  obtain ⟨tea, ea, sa⟩ := h1.ex Wx tk
  exact ⟨_, pss_one ea, sa⟩
/-- an expression whose value is dropped -/
def xDrop (te : TE3) : TS3 := fun D r => te r fun _ r' => D.nx r'
theorem m3_expr (h : P3 X e te) (hs : swapsWith e none pos.line X.env = pure false := by rfl) : M3 X (.Expr e pos) (xDrop te) := by
  refine ⟨fun Wx tk => ?_⟩
  obtain ⟨tea, ea, sa⟩ := h.ex
  exact ⟨_, ps_expr ea hs, fun G Z H r s D D3 st ht im => sa G Z H [] [] r s _ _ st ht fun Z' H' x v r' g st' q => im.nx Z' H' r' s g st'.pop q⟩
def xRet (te : TE3) : TS3 := fun D r => te r D.rt
theorem m3_ret (h : P3 X e te) : M3 X (.Return (some e) pos) (xRet te) := by
  refine ⟨fun Wx tk => ?_⟩
  obtain ⟨tea, ea, sa⟩ := h.ex
  exact ⟨_, ps_ret ea, fun G Z H r s D D3 st ht im => sa G Z H [] [] r s _ _ st ht fun Z' H' x v r' g st' q => im.rt Z' H' r' s x v g st' q⟩
def xIfS (c : TT3) (t u : TS3) : TS3 := fun D r => c r fun b r' => (b = true → t D r') ∧ (b = false → u D r')
theorem m3_if {c : Expr} {a b : List Stmt} (hc : T3 X c tt) (ha : B3 X a t) (hb : B3 X b u) : M3 X (.If c a b pos) (xIfS tt t u) := by
  refine ⟨fun Wx tk => ?_⟩
  obtain ⟨tec, ec, sc⟩ := hc.ex
  obtain ⟨tea, ea, sa⟩ := ha.ex Wx tk
  obtain ⟨teb, eb, sb⟩ := hb.ex Wx tk
  refine ⟨_, ps_if ec ea eb, fun G Z H r s D D3 st ht im => sc G Z H [] [] r s _ _ st ht fun Z' H' d r' g st' q => ?_⟩
  cases d with
  | true => exact sa G Z' H' r' s D D3 st' (q.1 rfl) (im.mono g)
  | false => exact sb G Z' H' r' s D D3 st' (q.2 rfl) (im.mono g)
/-- a slot's own list frozen, ahead of a block -/
def xFzS (i : Nat) (t : TS3) : TS3 := fun D r => match r[i]? with | some (some x) => nv x = true ∧ t D (r.set i (some (.d (fz x)))) | _ => False
theorem S3.fzSlot {K : PySem.W.Frag} {G Z H : Hp} {ks : List T} {vs : List V} {r : Rho} {s : L2.St} {i : Nat} {x : T} (h : S3 K G Z H ks vs r s) (e : r[i]? = some (some x)) (n : nv x = true) : ∃ Z', Gr G Z Z' ∧ S3 K G Z' H ks vs (r.set i (some (.d (fz x)))) s := by
  obtain ⟨v, ev, st1⟩ := h.take e
  obtain ⟨Z', g, st2⟩ := st1.freezeG n
  refine ⟨Z', g, ?_⟩
  have hi : i < r.length := (List.getElem?_eq_some_iff.mp e).1
  have st3 := st2.back (i := i) (by rw [List.length_set]; exact hi) ev
  rw [List.set_set] at st3
  exact st3
theorem b3_fz (i : Nat) {sts : List Stmt} (h : B3 X sts t) : B3 X sts (xFzS i t) := by
  refine ⟨fun Wx tk => ?_⟩
  obtain ⟨te, ea, sa⟩ := h.ex Wx tk
  refine ⟨te, ea, fun G Z H r s D D3 st ht im => ?_⟩
  unfold xFzS at ht
  split at ht
  · rename_i x e
    obtain ⟨Z', g, st'⟩ := st.fzSlot e ht.1
    exact sa G Z' H _ s D D3 st' ht.2 (im.mono g)
  · exact ht.elim
end
/-! ### targets -/
abbrev TG3 := T → Rho → (Rho → Prop) → Prop
abbrev TGs3 := List T → Rho → (Rho → Prop) → Prop
structure G3 (X : Cx) (tg : Expr) (js : List Nat) (g : TG3) : Prop where
  ex : ∃ te : TG, PG X tg te ∧ ∀ (G Z H : Hp) (ks : List T) (vs : List V) (r : Rho) (s : L2.St) (x : T) (v : V) (Q : L2.St → Hp → Prop) (Q3 : Rho → Prop), S3 X.K G Z H (x :: ks) (v :: vs) r s → g x r Q3 →
    (∀ Z' H' r' s', Gr G Z Z' → S3 X.K G Z' H' ks vs r' s' → s'.length = s.length → (∀ i, i ∉ js → s'[i]? = s[i]?) → Q3 r' → Q s' H') → te v s H Q
structure Gs3 (X : Cx) (tg : List Expr) (js : List Nat) (g : TGs3) : Prop where
  ex : ∃ te : TGs, PGs X tg te ∧ ∀ (G Z H : Hp) (ks : List T) (vs : List V) (r : Rho) (s : L2.St) (xs : List T) (us : List V) (Q : L2.St → Hp → Prop) (Q3 : Rho → Prop), xs.length = us.length → S3 X.K G Z H (xs ++ ks) (us ++ vs) r s → g xs r Q3 →
    (∀ Z' H' r' s', Gr G Z Z' → S3 X.K G Z' H' ks vs r' s' → s'.length = s.length → (∀ i, i ∉ js → s'[i]? = s[i]?) → Q3 r' → Q s' H') → te us s H Q
section
variable {K : PySem.W.Frag} {G Z H : Hp} {ks : List T} {vs : List V} {r : Rho} {s : L2.St} {t : T} {v : V} {i : Nat}
theorem S3.store (h : S3 K G Z H (t :: ks) (v :: vs) r s) : S3 K G Z H ks vs (r.set i (some t)) (s.set i (some v)) := by
  by_cases hi : i < r.length
  · exact h.put hi
  · have h2 := h.len
    rw [List.set_eq_of_length_le (by omega), List.set_eq_of_length_le (by omega)]
    exact h.pop
end
section
variable {X : Cx} {e o a b c : Expr} {es : List Expr} {g : TG3} {gs : TGs3} {js ls : List Nat} {t ta ti : TE3} {pos : Pos}
def xGName (i : Nat) : TG3 := fun x r Q => Q (r.set i (some x))
theorem g3_name (i : Nat) {x : Str} (hN : X.N.Nodup) (hi : X.N[i]? = some x := by rfl) (hx : Loc X.env.scope x := by first | exact Or.inl rfl | exact Or.inr rfl) (hf : X.fn x = true ∨ X.env.scope.names.lookup x = some .local := by first | exact .inl rfl | exact .inr rfl | assumption) : G3 X (.Name x pos) [i] (xGName i) := by
  refine ⟨_, pg_name hN hi hx hf, fun G Z H ks vs r s x v Q Q3 st hg k => k Z H _ _ (Gr.refl _ _) st.store (by rw [List.length_set]) (fun j hj => ?_) hg⟩
  rw [List.getElem?_set_ne]
  intro q
  exact hj (by rw [q]; exact List.mem_singleton.mpr rfl)
def xGNil : TGs3 := fun xs r Q => match xs with | [] => Q r | _ => False
def xGCons (g : TG3) (gs : TGs3) : TGs3 := fun xs r Q => match xs with | x :: rest => g x r fun r' => gs rest r' Q | [] => False
theorem gs3_nil : Gs3 X [] [] xGNil := by
  refine ⟨_, pgs_nil, fun G Z H ks vs r s xs us Q Q3 hl st hg k => ?_⟩
  cases xs with
  | nil =>
    cases us with
    | nil => exact ⟨rfl, k Z H r s (Gr.refl _ _) st rfl (fun _ _ => rfl) hg⟩
    | cons _ _ => simp at hl
  | cons _ _ => exact hg.elim
theorem gs3_cons (h1 : G3 X e js g) (h2 : Gs3 X es ls gs) (hs : (assignEach (e :: es) X.env).map (·.2) = assign e X.env :: (assignEach es X.env).map (·.2) := by rfl) : Gs3 X (e :: es) (js ++ ls) (xGCons g gs) := by
  obtain ⟨te, ea, sa⟩ := h1.ex
  obtain ⟨tes, eas, sas⟩ := h2.ex
  refine ⟨_, pgs_cons ea eas hs, fun G Z H ks vs r s xs us Q Q3 hl st hg k => ?_⟩
  cases xs with
  | nil => exact hg.elim
  | cons x xs =>
    cases us with
    | nil => simp at hl
    | cons u us =>
      refine ⟨u, us, rfl, sa G Z H (xs ++ ks) (us ++ vs) r s x u _ _ st hg fun Z1 H1 r1 s1 g1 st1 l1 e1 q1 => sas G Z1 H1 ks vs r1 s1 xs us _ _ (by simpa using hl) st1 q1 fun Z2 H2 r2 s2 g2 st2 l2 e2 q2 => k Z2 H2 r2 s2 (g1.trans g2) st2 (l2.trans l1) (fun i hi => ?_) q2⟩
      rw [List.mem_append] at hi
      exact (e2 i fun z => hi (.inr z)).trans (e1 i fun z => hi (.inl z))
def xGTup (n : Nat) (gs : TGs3) : TG3 := fun x r Q => match x with | .d (.tuple l) => l.length = n ∧ gs (l.map T.d) r Q | .tp l => l.length = n ∧ gs l r Q | _ => False
theorem g3_tup {kk n : Nat} (hc : X.calm = true) (h : Gs3 X es js gs) (hn : (assignEach es X.env).length = n := by rfl) (hst : (assignEach es X.env).findIdx? (·.1) = none := by rfl) : G3 X (.Tuple es kk pos) js (xGTup n gs) := by
  obtain ⟨te, ea, sa⟩ := h.ex
  refine ⟨_, pg_tup hc ea hn hst, fun G Z H ks vs r s x v Q Q3 st hg k => ?_⟩
  unfold xGTup at hg
  split at hg
  · rename_i l
    cases st.top with
    | d h =>
      cases h with
      | @tup a0 xs _ hs ha =>
        have hl : l.length = xs.length := dpa_len ha
        have st0 := st.pop
        have st4 : S3 X.K G Z H (l.map T.d ++ ks) (xs ++ vs) r s := ⟨st0.zh, st0.gh, fun a => by rw [cts_append, cts_d]; have := st0.one a; omega, fun a c => st0.ow a (by rw [cts_append, cts_d] at c; omega), rts_app (rts_of_dpa ha) st0.stk, st0.slot, st0.len⟩
        exact ⟨a0, xs, rfl, SqT.of (st.zh _ _ hs), by rw [← hl]; exact hg.1, sa G Z H ks vs r s _ xs Q Q3 (by rw [List.length_map]; exact hl) st4 hg.2 k⟩
  · rename_i l
    cases st.top with
    | @tp a0 _ xs h1 h2 =>
      have hl : l.length = xs.length := rts_len h2
      have st0 := st.pop
      have st4 : S3 X.K G Z H (l ++ ks) (xs ++ vs) r s := ⟨st.zh, st.gh, fun a => by have := st.one a; simp only [cts, ct] at this; rw [cts_append]; omega, fun a c => st.ow a (by rw [cts_append] at c; simp only [cts, ct]; omega), rts_app h2 st0.stk, st.slot, st.len⟩
      exact ⟨a0, xs, rfl, SqT.of (st.zh _ _ h1), by rw [← hl]; exact hg.1, sa G Z H ks vs r s _ xs Q Q3 hl st4 hg.2 k⟩
  · exact hg.elim
/-- a list with another item at a place -/
def setI {α : Type} (l : List α) (i : Int) (x : α) : Option (List α) := if 0 ≤ i then (if i < (l.length : Int) then some (l.set i.toNat x) else none) else if -(l.length : Int) ≤ i then some (l.set (i + l.length).toNat x) else none
theorem setI_of {α : Type} {l l' : List α} {i : Int} {x : α} (h : setI l i x = some l') : ∃ j, ixN l.length i = some j ∧ l' = l.set j x ∧ j < l.length := by
  unfold setI at h
  unfold ixN
  split at h
  · split at h
    · cases h; exact ⟨_, by rw [if_pos (by assumption), if_pos (by assumption)], rfl, by omega⟩
    · cases h
  · split at h
    · cases h; exact ⟨_, by rw [if_neg (by assumption), if_pos (by assumption)], rfl, by omega⟩
    · cases h
/-- x[i] = .., x a list of one's own -/
def xGSub (i : Nat) (ti : TE3) : TG3 := fun x r Q => match r[i]? with
  | some (some (.own _ _)) => ti r fun y r1 => asI y fun j => (match r1[i]? with
    | some (some (.own a l)) => ∃ l', setI l j x = some l' ∧ Q (r1.set i (some (.own a l')))
    | _ => False)
  | _ => False
theorem g3_sub (i : Nat) {x : Str} {p : Pos} (hb : R3 X b ti) (hN : X.N[i]? = some x := by rfl) (hv : Vis X.env.scope x := by first | exact Or.inl rfl | exact Or.inr (Or.inl rfl) | exact Or.inr (Or.inr rfl)) (hd : (x == ("__debug__" : Str)) = false := by decide)
    (hcd : (x == ("__classdict__" : Str)) = false := by decide)
    (ha : ∀ v, assign (.Subscript (.Name x p) b pos) X.env v = (do
      let ov ← holding [v] (eval (.Name x p) X.env)
      let iv ← holding [v, ov] (eval b X.env)
      standAt pos
      holding [v, ov, iv] (setItem ov iv v)
      release [v, ov, iv] []) := by intro _; rfl) : G3 X (.Subscript (.Name x p) b pos) [] (xGSub i ti) := by
  obtain ⟨tei, ei, si⟩ := hb.ex
  refine ⟨_, pg_sub (pe_var hN hv hd hcd) ei set_list ha, fun G Z H ks vs r s x v Q Q3 st hg k => ?_⟩
  unfold xGSub at hg
  split at hg
  · rename_i a0 l0 hr0
    obtain ⟨w, ew, _⟩ := st.slot i _ hr0
    refine ⟨w, ew, si G Z H (x :: ks) (v :: vs) r s _ _ st hg fun Z1 H1 y u r1 g1 st1 pv q0 => ?_⟩
    obtain ⟨j, rfl, q⟩ := asI_of q0
    clear q0
    cases pv.int
    split at q
    · rename_i a l hr
      obtain ⟨l', hl', q⟩ := q
      obtain ⟨n, en, rfl, hn⟩ := setI_of hl'
      obtain ⟨w2, ew2, st2⟩ := st1.take hr
      rw [ew] at ew2
      cases ew2
      have rt := st2.top
      cases rt with
      | @own _ _ xs e1 e2 =>
        have st3 := S3.mid' (l := [x]) (xs := [v]) rfl st2
        have hln := rts_len e2
        have rx : RT X.K Z1 H1 x v := by cases st3.stk with | cons q _ => exact q
        have st4 := st3.write (l' := l.set n x) (xs' := xs.set n v) (rts_set n e2 rx) (fun c => by have := cts_set c l n l[n] x (List.getElem?_eq_getElem hn); omega)
        have st5 := st4.back (i := i) (by rw [List.length_set]; exact (List.getElem?_eq_some_iff.mp hr).1) ew
        rw [List.set_set] at st5
        exact ⟨a, xs, j, n, rfl, rfl, e1, by rw [← hln]; exact en, k _ _ _ s g1 st5 rfl (fun _ _ => rfl) q⟩
    · exact q.elim
  · exact hg.elim
/-- x[i][j] = .., both lists of one's own -/
def xGSub2 (i : Nat) (ti tj : TE3) : TG3 := fun x r Q => match r[i]? with
  | some (some (.own a l)) => ti r fun y r1 => asI y fun m => ∃ b l2, getI l m = some (.own b l2) ∧ r1 = r ∧ tj r fun z r2 => asI z fun n => r2 = r ∧ ∃ l3, setI l2 n x = some l3 ∧ ∃ l', setI l m (.own b l3) = some l' ∧ Q (r.set i (some (.own a l')))
  | _ => False
theorem g3_sub2 (i : Nat) {x : Str} {p p2 : Pos} (ha1 : R3 X a ti) {tj : TE3} (hb : R3 X b tj) (hs : PlainIx a := by intro _ _; rfl) (hN : X.N[i]? = some x := by rfl) (hv : Vis X.env.scope x := by first | exact Or.inl rfl | exact Or.inr (Or.inl rfl) | exact Or.inr (Or.inr rfl)) (hd : (x == ("__debug__" : Str)) = false := by decide)
    (hcd : (x == ("__classdict__" : Str)) = false := by decide)
    (ha : ∀ v, assign (.Subscript (.Subscript (.Name x p) a p2) b pos) X.env v = (do
      let ov ← holding [v] (eval (.Subscript (.Name x p) a p2) X.env)
      let iv ← holding [v, ov] (eval b X.env)
      standAt pos
      holding [v, ov, iv] (setItem ov iv v)
      release [v, ov, iv] []) := by intro _; rfl) : G3 X (.Subscript (.Subscript (.Name x p) a p2) b pos) [] (xGSub2 i ti tj) := by
  obtain ⟨tei, ei, si⟩ := ha1.ex
  obtain ⟨tej, ej, sj⟩ := hb.ex
  refine ⟨_, pg_sub (pe_ix ix_seq (pe_var hN hv hd hcd) ei hs) ej set_list ha, fun G Z H ks vs r s x v Q Q3 st hg k => ?_⟩
  unfold xGSub2 at hg
  split at hg
  · rename_i a0 l0 hr0
    obtain ⟨w, ew, _⟩ := st.slot i _ hr0
    refine ⟨w, ew, si G Z H (x :: ks) (v :: vs) r s _ _ st hg fun Z1 H1 y u r1 g1 st1 pv q0 => ?_⟩
    obtain ⟨m, rfl, q⟩ := asI_of q0
    clear q0
    cases pv.int
    obtain ⟨b0, l2, hg2, rfl, q⟩ := q
    obtain ⟨w2, ew2, rt0⟩ := st1.slot i _ hr0
    rw [ew] at ew2
    cases ew2
    cases rt0 with
    | @own _ _ xs0 e1 e2 =>
      obtain ⟨vb, eb, rb⟩ := rts_at e2 hg2
      cases rb with
      | @own _ _ ys0 f1 f2 =>
        refine .inl ⟨a0, xs0, m, .ref b0, rfl, rfl, SqL.of e1, eb, sj G Z1 H1 (x :: ks) (v :: vs) r1 s _ _ st1 q fun Z2 H2 z u2 r2 g2 st2 pv2 q2 => ?_⟩
        obtain ⟨n, rfl, q3⟩ := asI_of q2
        cases pv2.int
        obtain ⟨rfl, l3, hl3, l', hl', q4⟩ := q3
        obtain ⟨n3, en3, rfl, hn3⟩ := setI_of hl3
        obtain ⟨n4, en4, rfl, hn4⟩ := setI_of hl'
        obtain ⟨j5, en5, hj5⟩ := getI_set l0 m _ hg2
        rw [en4] at en5
        cases en5
        obtain ⟨w3, ew3, st3⟩ := st2.take hr0
        rw [ew] at ew3
        cases ew3
        have st4 := S3.mid' (l := [x]) (xs := [v]) rfl st3
        have rt := st3.top
        cases rt with
        | @own _ _ xs k1 k2 =>
          obtain ⟨vb2, eb2, rb2⟩ := rts_get k2 hj5
          cases rb2 with
          | @own _ _ ys m1 m2 =>
            have rx : RT X.K Z2 H2 x v := by cases st4.stk with | cons q _ => exact q
            have hln := rts_len m2
            have st5 := st4.write2 (i := n4) (m := l2) (m' := l2.set n3 x) (ys' := ys.set n3 v) hj5 (rts_set n3 m2 rx) (fun c => by have := cts_set c l2 n3 l2[n3] x (List.getElem?_eq_getElem hn3); omega)
            have st6 := st5.back (i := i) (by rw [List.length_set]; exact (List.getElem?_eq_some_iff.mp hr0).1) ew
            rw [List.set_set] at st6
            exact ⟨b0, ys, n, n3, rfl, rfl, m1, by rw [← hln]; exact en3, k _ _ _ s (g1.trans g2) st6 rfl (fun _ _ => rfl) q4⟩
  · exact hg.elim
/-! ### assignments -/
def xAsg (t : TE3) (g : TG3) : TS3 := fun D r => t r fun x r' => g x r' D.nx
theorem m3_asg {tg : Expr} (he : P3 X e t) (hg : G3 X tg js g) (hs : swapsWithSole [tg] e pos.line X.env = pure false := by rfl) (hw : swappedStores [tg] e X.env = pure none := by rfl)
    (h1 : (assignEach [tg] X.env).map (·.2) = [assign tg X.env] := by rfl) : M3 X (.Assign [tg] e pos) (xAsg t g) := by
  refine ⟨fun Wx tk => ?_⟩
  obtain ⟨te, ee, se⟩ := he.ex
  obtain ⟨tg', eg, sg⟩ := hg.ex
  exact ⟨_, ps_asg ee eg hs hw h1, fun G Z H r s D D3 st ht im => se G Z H [] [] r s _ _ st ht fun Z1 H1 x v r1 g1 st1 q => sg G Z1 H1 [] [] r1 s x v _ _ st1 q fun Z2 H2 r2 s2 g2 st2 _ _ q2 => im.nx Z2 H2 r2 s2 (g1.trans g2) st2 q2⟩
theorem m3_set (i : Nat) {x : Str} {p' : Pos} (he : P3 X e t) (hN : X.N.Nodup) (hi : X.N[i]? = some x := by rfl) (hx : Loc X.env.scope x := by first | exact Or.inl rfl | exact Or.inr rfl) (hs : swapsWith e (some (.Name x p')) pos.line X.env = pure false := by rfl) (hf : X.fn x = true ∨ X.env.scope.names.lookup x = some .local := by first | exact .inl rfl | exact .inr rfl | assumption) :
    M3 X (.Assign [.Name x p'] e pos) (xAsg t (xGName i)) := by
  refine ⟨fun Wx tk => ?_⟩
  obtain ⟨te, ee, se⟩ := he.ex
  exact ⟨_, ps_set hN hi hx ee hs hf, fun G Z H r s D D3 st ht im => se G Z H [] [] r s _ _ st ht fun Z1 H1 x v r1 g1 st1 q => im.nx Z1 H1 _ _ g1 st1.store q⟩
/-- a, b = e1, e2 (two names) -/
def xPar (i j : Nat) (t : TA3) : TS3 := fun D r => t r fun xs r' => match xs with | [x, y] => D.nx ((r'.set i (some x)).set j (some y)) | _ => False
theorem m3_par (i j : Nat) {x y : Str} {px py pt : Pos} {kt k2 pt2} {u : TA3} (hc : X.calm = true) (ha : PA3 X [a, b] u) (hN : X.N.Nodup) (hi : X.N[i]? = some x := by rfl) (hj : X.N[j]? = some y := by rfl) (hij : i ≠ j := by decide) (hx : X.env.scope.names.lookup x = some .local := by rfl) (hy : X.env.scope.names.lookup y = some .local := by rfl)
    (hw : swappedStores [.Tuple [.Name x px, .Name y py] kt pt] (.Tuple [a, b] k2 pt2) X.env = pure (some [x, y]) := by rfl)
    (hs : swapsWithSole [.Tuple [.Name x px, .Name y py] kt pt] (.Tuple [a, b] k2 pt2) pos.line X.env = pure false := by rfl) :
    M3 X (.Assign [.Tuple [.Name x px, .Name y py] kt pt] (.Tuple [a, b] k2 pt2) pos) (xPar i j u) := by
  refine ⟨fun Wx tk => ?_⟩
  obtain ⟨te, ee, se⟩ := ha.ex
  refine ⟨_, ps_par hc hN hi hj hij hx hy ee hw hs, fun G Z H r s D D3 st ht im => se G Z H [] [] r s _ _ st ht fun Z1 H1 xs us r1 g1 hl st1 q => ?_⟩
  split at q
  · rename_i tx ty
    match us, hl with
    | [u1, u2], _ =>
      refine ⟨u1, u2, rfl, im.nx Z1 H1 _ _ g1 ?_ q⟩
      have st2 := st1.store (i := i)
      exact st2.store (i := j)
  · exact q.elim
def xPar3 (i j l : Nat) (t : TA3) : TS3 := fun D r => t r fun xs r' => match xs with | [x, y, z] => D.nx (((r'.set i (some x)).set j (some y)).set l (some z)) | _ => False
theorem m3_par3 (i j l : Nat) {x y z : Str} {px py pz pt : Pos} {kt k2 pt2} {u : TA3} (hc : X.calm = true) (ha : PA3 X [a, b, c] u) (hN : X.N.Nodup) (hi : X.N[i]? = some x := by rfl) (hj : X.N[j]? = some y := by rfl) (hl : X.N[l]? = some z := by rfl) (hij : i ≠ j := by decide) (hil : i ≠ l := by decide) (hjl : j ≠ l := by decide)
    (hx : X.env.scope.names.lookup x = some .local := by rfl) (hy : X.env.scope.names.lookup y = some .local := by rfl) (hz : X.env.scope.names.lookup z = some .local := by rfl)
    (hw : swappedStores [.Tuple [.Name x px, .Name y py, .Name z pz] kt pt] (.Tuple [a, b, c] k2 pt2) X.env = pure (some [x, y, z]) := by rfl)
    (hs : swapsWithSole [.Tuple [.Name x px, .Name y py, .Name z pz] kt pt] (.Tuple [a, b, c] k2 pt2) pos.line X.env = pure false := by rfl) :
    M3 X (.Assign [.Tuple [.Name x px, .Name y py, .Name z pz] kt pt] (.Tuple [a, b, c] k2 pt2) pos) (xPar3 i j l u) := by
  refine ⟨fun Wx tk => ?_⟩
  obtain ⟨te, ee, se⟩ := ha.ex
  refine ⟨_, ps_par3 hc hN hi hj hl hij hil hjl hx hy hz ee hw hs, fun G Z H r s D D3 st ht im => se G Z H [] [] r s _ _ st ht fun Z1 H1 xs us r1 g1 hl st1 q => ?_⟩
  split at q
  · rename_i tx ty tz
    match us, hl with
    | [u1, u2, u3], _ =>
      refine ⟨u1, u2, u3, rfl, im.nx Z1 H1 _ _ g1 ?_ q⟩
      have st2 := st1.store (i := i)
      have st3 := st2.store (i := j)
      exact st3.store (i := l)
  · exact q.elim
/-- x op= e, ints -/
def xAug (C : Int → Int → Prop) (f : Int → Int → Int) (i : Nat) (t : TE3) : TS3 := fun D r => match r[i]? with
  | some (some (.d (.int m))) => t r fun y r' => asI y fun n => C m n ∧ D.nx (r'.set i (some (.d (.int (f m n)))))
  | _ => False
theorem m3_aug {op : Operator} {C : Int → Int → Prop} {f : Int → Int → Int} (i : Nat) {x : Str} {p' : Pos} (ho : OpR X (inplaceOp op) (rI C fun m n => .int (f m n))) (he : R3 X e t) (hN : X.N.Nodup) (hi : X.N[i]? = some x := by rfl) (hx : Loc X.env.scope x := by first | exact Or.inl rfl | exact Or.inr rfl) (hf : X.fn x = true ∨ X.env.scope.names.lookup x = some .local := by first | exact .inl rfl | exact .inr rfl | assumption) :
    M3 X (.AugAssign (.Name x p') op e pos) (xAug C f i t) := by
  refine ⟨fun Wx tk => ?_⟩
  obtain ⟨te, ee, se⟩ := he.ex
  refine ⟨_, ps_aug hN hi hx ee (fun pins s σ H x y v u Q I rx ry h => ho pins s σ H x y v u Q I rx ry h) hf, fun G Z H r s D D3 st ht im => ?_⟩
  unfold xAug at ht
  split at ht
  · rename_i m hr
    obtain ⟨w, ew, rt⟩ := st.slot i _ hr
    have ew2 : w = .int m := by
      cases rt with
      | d h => cases h; rfl
    subst ew2
    refine ⟨_, ew, se G Z H [] [] r s _ _ st ht fun Z1 H1 y v r1 g1 st1 pv q0 => ?_⟩
    obtain ⟨n, rfl, hC, q⟩ := asI_of q0
    exact ⟨m, n, rfl, pv.int, hC, im.nx Z1 H1 _ _ g1 (st1.pushD (.int _)).store q⟩
  · exact ht.elim
theorem iop_add3 : OpR X (inplaceOp .Add) (rI (fun _ _ => True) fun i j => .int (i + j)) := opI fun _ _ _ _ _ _ _ _ q => iadd_int q
theorem iop_mul3 : OpR X (inplaceOp .Mult) (rI MulOk fun i j => .int (i * j)) := opI fun _ _ _ _ _ _ _ hc q => imul_int q hc.ok
end
/-! ### while, for -/
section
variable {X : Cx} {e iter tg : Expr} {body : List Stmt} {tt : TT3} {tb : TS3} {g : TG3} {js : List Nat} {t : TE3} {pos : Pos}
def xWhile (c : TT3) (tb : TS3) : TS3 := fun D r => ∃ W : Nat → Rho → Prop, (∃ m, W m r) ∧ ∀ m r, W m r → c r fun b r1 => (b = true → tb { D with nx := fun r' => ∃ m', m' < m ∧ W m' r', ct := fun r' => ∃ m', m' < m ∧ W m' r', bk := D.nx } r1) ∧ (b = false → D.nx r1)
theorem m3_while {c : Expr} (hp : PassesOwn (model X.prog X.w) X.A X.env X.xe) (hc : T3 X c tt) (hb : B3 X body tb) : M3 X (.While c body [] pos) (xWhile tt tb) := by
  refine ⟨fun Wx tk => ?_⟩
  obtain ⟨tec, ec, sc⟩ := hc.ex
  obtain ⟨teb, eb, sb⟩ := hb.ex Wx tk
  refine ⟨_, ps_while hp ec eb, fun G Z H r s D D3 st ht im => ?_⟩
  obtain ⟨W, ⟨m0, w0⟩, turn⟩ := ht
  refine ⟨fun m s H => ∃ Z' r, Gr G Z Z' ∧ S3 X.K G Z' H [] [] r s ∧ W m r, ⟨m0, Z, r, Gr.refl _ _, st, w0⟩, ?_⟩
  rintro m s1 H1 ⟨Z1, r1, g1, st1, w1⟩
  refine sc G Z1 H1 [] [] r1 s1 _ _ st1 (turn m r1 w1) fun Z2 H2 b r2 g2 st2 q => ?_
  cases b with
  | false => exact im.nx Z2 H2 r2 s1 (g1.trans g2) st2 (q.2 rfl)
  | true =>
    rw [if_pos rfl]
    refine ⟨fun s' H' => ∃ m', m' < m ∧ ∃ Z' r, Gr G Z Z' ∧ S3 X.K G Z' H' [] [] r s' ∧ W m' r, fun s' H' h => h, ?_⟩
    refine sb G Z2 H2 r2 s1 _ _ st2 (q.1 rfl) ⟨fun Z3 H3 r3 s3 g3 st3 q3 => ?_, fun Z3 H3 r3 s3 x v g3 st3 q3 => im.rt Z3 H3 r3 s3 x v ((g1.trans g2).trans g3) st3 q3, fun Z3 H3 r3 s3 g3 st3 q3 => im.nx Z3 H3 r3 s3 ((g1.trans g2).trans g3) st3 q3, fun Z3 H3 r3 s3 g3 st3 q3 => ?_, fun Z3 H3 C r3 s3 g3 st3 q3 => im.ex Z3 H3 C r3 s3 ((g1.trans g2).trans g3) st3 q3⟩
    · obtain ⟨m', hm, w'⟩ := q3
      exact ⟨m', hm, Z3, r3, (g1.trans g2).trans g3, st3, w'⟩
    · obtain ⟨m', hm, w'⟩ := q3
      exact ⟨m', hm, Z3, r3, (g1.trans g2).trans g3, st3, w'⟩
/-- what an iterator yields -/
def Yld (K : PySem.W.Frag) (Z H : Hp) (x : PyData) (v : V) (H' : Hp) : Prop := (H' = H ∧ Dq K Z v x) ∨ ∃ p o, H p = none ∧ H' = upd H p o ∧ Dq K (upd Z p o) v x
def Walks (K : PySem.W.Frag) (Z : Hp) (J : It) (items : List PyData) : Prop := ∀ Z' H i, Sub Z Z' → Sub Z' H →
  (∀ x, items[i]? = some x → J.go i H ∧ ∀ v H', J.yld i H v H' → Yld K Z' H x v H') ∧ (items.length ≤ i → J.stop i H)
abbrev TI3 := Rho → (List PyData → Rho → Prop) → Prop
structure I3 (X : Cx) (tg iter : Expr) (w : TI3) : Prop where
  ex : ∃ wi : TI, PI X tg iter wi ∧ ∀ (G Z H : Hp) (ks : List T) (vs : List V) (r : Rho) (s : L2.St) (R : It → Hp → Prop) (Q3 : List PyData → Rho → Prop), S3 X.K G Z H ks vs r s → w r Q3 →
    (∀ Z' H' J items r', Gr G Z Z' → S3 X.K G Z' H' ks vs r' s → Walks X.K Z' J items → Q3 items r' → R J H') → wi s H R
def xFor (w : TI3) (g : TG3) (tb : TS3) : TS3 := fun D r => w r fun items r1 => ∃ W : Nat → Rho → Prop, W 0 r1 ∧ (∀ i x r, items[i]? = some x → W i r → g (.d x) r fun r2 => tb { D with nx := W (i + 1), ct := W (i + 1), bk := D.nx } r2) ∧ ∀ r, W items.length r → D.nx r
theorem Yld.st {K : PySem.W.Frag} {G Z H H' : Hp} {ks : List T} {vs : List V} {r : Rho} {s : L2.St} {x : PyData} {v : V} (y : Yld K Z H x v H') (st : S3 K G Z H ks vs r s) : ∃ Z', Gr G Z Z' ∧ S3 K G Z' H' (.d x :: ks) (v :: vs) r s := by
  rcases y with ⟨rfl, d⟩ | ⟨p, o, hp, rfl, d⟩
  · exact ⟨Z, Gr.refl _ _, st.pushD d⟩
  · obtain ⟨g, st2⟩ := st.laidG (o := o) hp
    exact ⟨_, g, st2.pushD d⟩
theorem m3_for {w : TI3} (hp : PassesOwn (model X.prog X.w) X.A X.env X.xe) (hc : X.calm = true) (hi : I3 X tg iter w) (hg : G3 X tg js g) (hb : B3 X body tb) (hs : ∀ x, foldedSetIterable iter X.env x = pure x := by intro _; rfl) : M3 X (.For tg iter body [] pos) (xFor w g tb) := by
  refine ⟨fun Wx tk => ?_⟩
  obtain ⟨wi, ei, si⟩ := hi.ex
  obtain ⟨tg', eg, sg⟩ := hg.ex
  obtain ⟨teb, eb, sb⟩ := hb.ex Wx tk
  refine ⟨_, ps_for hp hc ei eg eb hs, fun G Z H r s D D3 st ht im => si G Z H [] [] r s _ _ st ht fun Z0 H0 J items r0 g0 st0 wk q => ?_⟩
  obtain ⟨W, w0, turn, done⟩ := q
  refine ⟨fun i m s H => m = items.length - i ∧ i ≤ items.length ∧ ∃ Z' r, Gr G Z0 Z' ∧ S3 X.K G Z' H [] [] r s ∧ W i r, ⟨_, rfl, Nat.zero_le _, Z0, r0, Gr.refl _ _, st0, w0⟩, ?_⟩
  rintro i m s1 H1 ⟨rfl, hi, Z1, r1, g1, st1, w1⟩
  by_cases hlt : i < items.length
  · obtain ⟨go, y⟩ := (wk Z1 H1 i g1.sub st1.zh).1 items[i] (List.getElem?_eq_getElem hlt)
    refine .inr ⟨go, fun s' H' => ∃ Z' r, Gr G Z0 Z' ∧ S3 X.K G Z' H' [] [] r s' ∧ W (i + 1) r, fun s' H' h => ⟨items.length - (i + 1), by omega, rfl, hlt, h⟩, fun x H' yx => ?_⟩
    obtain ⟨Z2, g2, st2⟩ := (y x H' yx).st st1
    refine sg G Z2 H' [] [] r1 s1 _ x _ _ st2 (turn i _ r1 (List.getElem?_eq_getElem hlt) w1) fun Z3 H3 r3 s3 g3 st3 _ _ q3 => ?_
    have gg := (g1.trans g2).trans g3
    exact sb G Z3 H3 r3 s3 _ _ st3 q3 ⟨fun Z4 H4 r4 s4 g4 st4 q4 => ⟨Z4, r4, gg.trans g4, st4, q4⟩, fun Z4 H4 r4 s4 x v g4 st4 q4 => im.rt Z4 H4 r4 s4 x v (g0.trans (gg.trans g4)) st4 q4,
      fun Z4 H4 r4 s4 g4 st4 q4 => im.nx Z4 H4 r4 s4 (g0.trans (gg.trans g4)) st4 q4, fun Z4 H4 r4 s4 g4 st4 q4 => ⟨Z4, r4, gg.trans g4, st4, q4⟩, fun Z4 H4 C r4 s4 g4 st4 q4 => im.ex Z4 H4 C r4 s4 (g0.trans (gg.trans g4)) st4 q4⟩
  · have e : i = items.length := by omega
    subst e
    exact .inl ⟨(wk Z1 H1 _ g1.sub st1.zh).2 (Nat.le_refl _), im.nx Z1 H1 r1 s1 (g0.trans g1) st1 (done r1 w1)⟩
/-! what is walked -/
end
end L3
namespace L3
open PySem PySem.Spec PyProof.Rows L2
/-! ### the weakest reading -/
def lowP (K : PySem.W.Frag) (t : TE3) : TE := fun s H Q => ∃ (G Z : Hp) (ks : List T) (vs : List V) (r : Rho) (Q3 : T → Rho → Prop), S3 K G Z H ks vs r s ∧ t r Q3 ∧ ∀ Z' H' x v r', Gr G Z Z' → S3 K G Z' H' (x :: ks) (v :: vs) r' s → Q3 x r' → Q v H'
def lowT (K : PySem.W.Frag) (t : TT3) : TT := fun s H Q => ∃ (G Z : Hp) (ks : List T) (vs : List V) (r : Rho) (Q3 : Bool → Rho → Prop), S3 K G Z H ks vs r s ∧ t r Q3 ∧ ∀ Z' H' b r', Gr G Z Z' → S3 K G Z' H' ks vs r' s → Q3 b r' → Q b H'
def lowG (K : PySem.W.Frag) (js : List Nat) (g : TG3) : TG := fun v s H Q => ∃ (G Z : Hp) (ks : List T) (vs : List V) (r : Rho) (x : T) (Q3 : Rho → Prop), S3 K G Z H (x :: ks) (v :: vs) r s ∧ g x r Q3 ∧
  ∀ Z' H' r' s', Gr G Z Z' → S3 K G Z' H' ks vs r' s' → s'.length = s.length → (∀ i, i ∉ js → s'[i]? = s[i]?) → Q3 r' → Q s' H'
section
variable {X : Cx} {e : Expr} {t : TE3} {tt : TT3} {g : TG3} {js : List Nat}
theorem P3.low (h : P3 X e t) : PE X e (lowP X.K t) := by
  obtain ⟨te, he, hs⟩ := h.ex
  exact ⟨fun pins s σ H Q I ⟨G, Z, ks, vs, r, Q3, st, ht, k⟩ => he.run pins s σ H Q I (hs G Z H ks vs r σ Q Q3 st ht k)⟩
theorem T3.low (h : T3 X e tt) : PT X e (lowT X.K tt) := by
  obtain ⟨te, he, hs⟩ := h.ex
  exact ⟨fun pins s σ H Q I ⟨G, Z, ks, vs, r, Q3, st, ht, k⟩ => he.run pins s σ H Q I (hs G Z H ks vs r σ Q Q3 st ht k)⟩
theorem G3.low (h : G3 X e js g) : PG X e (lowG X.K js g) := by
  obtain ⟨te, he, hs⟩ := h.ex
  exact ⟨fun pins s σ H v u Q I rv ⟨G, Z, ks, vs, r, x, Q3, st, ht, k⟩ => he.run pins s σ H v u Q I rv (hs G Z H ks vs r σ x v Q Q3 st ht k)⟩
end
/-- the conditions of a comprehension -/
structure Ts3 (X : Cx) (ifs : List Expr) (t : TT3) : Prop where
  pt : PTs X ifs (lowT X.K t)
def xYes : TT3 := fun r Q => Q true r
theorem ts3_nil {X : Cx} : Ts3 X [] xYes := ⟨⟨fun pins s σ H Q I ⟨G, Z, ks, vs, r, Q3, st, ht, k⟩ => pts_nil.run pins s σ H Q I (k Z H true r (Gr.refl _ _) st ht)⟩⟩
theorem ts3_one {X : Cx} {c : Expr} {t : TT3} (h : T3 X c t) : Ts3 X [c] t := ⟨pts_one h.low⟩
/-! ### comprehensions -/
def wp (r : Rho) : List Nat → Rho
  | [] => r
  | j :: js => (wp r js).set j none
theorem S3.wipes {K : PySem.W.Frag} {G Z H : Hp} {ks : List T} {vs : List V} {r : Rho} {s : L2.St} (h : S3 K G Z H ks vs r s) : ∀ js, S3 K G Z H ks vs (wp r js) (L2.wipe s js)
  | [] => h
  | j :: js => (h.wipes js).wipe
theorem S3.unwipe {K : PySem.W.Frag} {G Z H : Hp} {ks : List T} {vs : List V} {r : Rho} {s : L2.St} {js : List Nat} (h : S3 K G Z H ks vs r (L2.wipe s js)) : S3 K G Z H ks vs r s :=
  ⟨h.zh, h.gh, h.one, h.ow, h.stk, fun i t e => by
    obtain ⟨v, ev, q⟩ := h.slot i t e
    exact ⟨v, (wipe_some ev).1, q⟩, h.len.trans (wipe_length s js)⟩
theorem wipe_same {s s' : L2.St} : ∀ {js : List Nat}, s'.length = s.length → (∀ i, i ∉ js → s'[i]? = s[i]?) → L2.wipe s' js = L2.wipe s js := by
  intro js hl h
  refine List.ext_getElem? fun i => ?_
  by_cases hi : i ∈ js
  · have z : ∀ (s : L2.St) (js : List Nat), i ∈ js → (L2.wipe s js)[i]? = if i < s.length then some none else none := by
      intro s js
      induction js with
      | nil => intro h; simp at h
      | cons j js ih =>
        intro h
        show ((L2.wipe s js).set j none)[i]? = _
        by_cases e : j = i
        · subst e
          by_cases hl : j < s.length
          · rw [List.getElem?_set_self (by rw [wipe_length]; exact hl), if_pos hl]
          · rw [List.getElem?_eq_none (by rw [List.length_set, wipe_length]; omega), if_neg hl]
        · rw [List.getElem?_set_ne e]
          rcases List.mem_cons.mp h with q | q
          · exact absurd q.symm e
          · exact ih q
    rw [z s' js hi, z s js hi, hl]
  · rw [wipe_out hi, wipe_out hi]
    exact h i hi
def xLc (w : TI3) (g : TG3) (tt : TT3) (te : TE3) (js : List Nat) : TE3 := fun r Q => w r fun items r1 => ∀ p, ∃ W : Nat → List T → Rho → Prop, W 0 [] (wp r1 js) ∧
  (∀ i x acc r, items[i]? = some x → W i acc r → g (.d x) r fun r2 => tt r2 fun b r3 => (b = true → te r3 fun y r4 => acc.length < sizeLine ∧ W (i + 1) (acc ++ [y]) (wp r4 js)) ∧ (b = false → W (i + 1) acc (wp r3 js))) ∧
  ∀ acc r, W items.length acc r → Q (.own p acc) r
section
variable {X : Cx} {elt tg iter : Expr} {ifs : List Expr} {scope : Scope} {own : List (Str × Nat)} {pos : Pos} {w : TI3} {g : TG3} {tt : TT3} {te : TE3} {js : List Nat}
theorem lc_run {wi : TI} (si : ∀ (G Z H : Hp) (ks : List T) (vs : List V) (r : Rho) (s : L2.St) (R : It → Hp → Prop) (Q3 : List PyData → Rho → Prop), S3 X.K G Z H ks vs r s → w r Q3 →
    (∀ Z' H' J items r', Gr G Z Z' → S3 X.K G Z' H' ks vs r' s → Walks X.K Z' J items → Q3 items r' → R J H') → wi s H R) (hj : ∀ j ∈ js, j ∈ own.map (·.2)) {G Z H : Hp} {ks : List T} {vs : List V} {r : Rho} {s : L2.St} {Q : VK} {Q3 : T → Rho → Prop} (st : S3 X.K G Z H ks vs r s) (ht : xLc w g tt te (own.map (·.2)) r Q3)
    (k : ∀ Z' H' x v r', Gr G Z Z' → S3 X.K G Z' H' (x :: ks) (v :: vs) r' s → Q3 x r' → Q v H') : tLc wi (lowG X.K js g) (lowT X.K tt) (lowP X.K te) (own.map (·.2)) s H Q := by
  refine si G Z H ks vs r s _ _ st ht fun Z0 H0 J items r0 g0 st0 wk q D hD => ?_
  obtain ⟨W, w0, turn, done⟩ := q D
  have stw : S3 X.K G Z0 H0 ks vs (wp r0 (own.map (·.2))) (L2.wipe s (own.map (·.2))) := st0.wipes _
  have st1 : S3 X.K G Z0 (upd H0 D (.lst [])) (.own D [] :: ks) (.ref D :: vs) (wp r0 (own.map (·.2))) (L2.wipe s (own.map (·.2))) := S3.mkOwn (l := []) (xs := []) stw rfl hD
  refine ⟨fun i m H => m = items.length - i ∧ i ≤ items.length ∧ ∃ Z' r acc, Gr G Z0 Z' ∧ S3 X.K G Z' H (.own D acc :: ks) (.ref D :: vs) r (L2.wipe s (own.map (·.2))) ∧ W i acc r, ⟨_, rfl, Nat.zero_le _, Z0, _, [], Gr.refl _ _, st1, w0⟩, ?_⟩
  rintro i m H1 ⟨rfl, hi, Z1, r1, acc, g1, st1, w1⟩
  by_cases hlt : i < items.length
  · obtain ⟨go, y⟩ := (wk Z1 H1 i g1.sub st1.zh).1 items[i] (List.getElem?_eq_getElem hlt)
    refine .inr ⟨go, fun H' => ∃ Z' r acc, Gr G Z0 Z' ∧ S3 X.K G Z' H' (.own D acc :: ks) (.ref D :: vs) r (L2.wipe s (own.map (·.2))) ∧ W (i + 1) acc r, fun H' h => ⟨items.length - (i + 1), by omega, rfl, hlt, h⟩, fun x H' yx => ?_⟩
    obtain ⟨Z2, g2, st2⟩ := (y x H' yx).st st1
    refine ⟨G, Z2, _, _, r1, _, _, st2, turn i _ acc r1 (List.getElem?_eq_getElem hlt) w1, fun Z3 H3 r3 s3 g3 st3 l3 e3 q3 => ?_⟩
    have ew : wipe s3 (own.map (·.2)) = wipe s (own.map (·.2)) := by
      have : wipe s3 (own.map (·.2)) = wipe (L2.wipe s (own.map (·.2))) (own.map (·.2)) := wipe_same l3 fun i hi => e3 i fun z => hi (hj i z)
      rw [this]
      exact wipe_same (wipe_length _ _) fun i hi => wipe_out hi
    have gg := (g1.trans g2).trans g3
    refine ⟨ew, G, Z3, _, _, r3, _, st3, q3, fun Z4 H4 b r4 g4 st4 q4 => ?_⟩
    cases b with
    | false =>
      have q5 : W (i + 1) acc (wp r4 (own.map (·.2))) := q4.2 rfl
      have st5 := st4.wipes (own.map (·.2))
      rw [ew] at st5
      exact ⟨Z4, _, acc, gg.trans g4, st5, q5⟩
    | true =>
      refine ⟨G, Z4, _, _, r4, _, st4, q4.1 rfl, fun Z5 H5 y v r5 g5 st5 q5 => ?_⟩
      obtain ⟨xs, e1, e2, e3', e4, _⟩ := st5.ownAt
      have st6 := st5.write (l' := acc ++ [y]) (xs' := xs ++ [v]) (rts_snoc e2 e3') (fun b => by rw [cts_append]; simp only [cts]; omega)
      have st7 := st6.wipes (own.map (·.2))
      rw [ew] at st7
      exact ⟨xs, e1, by rw [← rts_len e2]; exact q5.1, Z5, _, _, (gg.trans g4).trans g5, st7, q5.2⟩
  · have e : i = items.length := by omega
    subst e
    exact .inl ⟨(wk Z1 H1 _ g1.sub st1.zh).2 (Nat.le_refl _), k Z1 H1 _ _ r1 (g0.trans g1) st1.unwipe (done acc r1 w1)⟩
theorem p3_lc (hc : X.calm = true) (hN : X.N.Nodup) (hi : I3 X tg iter w) (ok : BlkOk X.N X.env.scope scope own) (hj : ∀ j ∈ js, j ∈ own.map (·.2))
    (hg : ∀ (s : Shared) (H : Hp) (C : Addr) (cl : List (Str × Addr)) (fp : List Addr), G3 (X.blk s H scope (compEnvC scope cl C X.env) fp) tg js g) (ht : ∀ (s : Shared) (H : Hp) (C : Addr) (cl : List (Str × Addr)) (fp : List Addr), Ts3 (X.blk s H scope (compEnvC scope cl C X.env) fp) ifs tt)
    (he : ∀ (s : Shared) (H : Hp) (C : Addr) (cl : List (Str × Addr)) (fp : List Addr), P3 (X.blk s H scope (compEnvC scope cl C X.env) fp) elt te) (hs : ∀ x, foldedSetIterable iter X.env x = pure x := by intro _; rfl) :
    P3 X (.ListComp elt [⟨tg, iter, ifs, 0⟩] scope pos) (xLc w g tt te (own.map (·.2))) := by
  obtain ⟨wi, ei, si⟩ := hi.ex
  exact ⟨_, pe_lc hc hN ei ok (fun s H C cl fp => (hg s H C cl fp).low) (fun s H C cl fp => (ht s H C cl fp).pt) (fun s H C cl fp => (he s H C cl fp).low) hs, fun G Z H ks vs r s Q Q3 st h k => lc_run si hj st h k⟩
/-- name = [..] on one line, the name a local -/
theorem m3_setLc (i : Nat) {y : Str} {py spos : Pos} (hc : X.calm = true) (hN : X.N.Nodup) (hi : I3 X tg iter w) (ok : BlkOk X.N X.env.scope scope own) (hj : ∀ j ∈ js, j ∈ own.map (·.2))
    (hg : ∀ (s : Shared) (H : Hp) (C : Addr) (cl : List (Str × Addr)) (fp : List Addr), G3 (X.blk s H scope (compEnvC scope cl C X.env) fp) tg js g) (ht : ∀ (s : Shared) (H : Hp) (C : Addr) (cl : List (Str × Addr)) (fp : List Addr), Ts3 (X.blk s H scope (compEnvC scope cl C X.env) fp) ifs tt)
    (he : ∀ (s : Shared) (H : Hp) (C : Addr) (cl : List (Str × Addr)) (fp : List Addr), P3 (X.blk s H scope (compEnvC scope cl C X.env) fp) elt te) (hy : X.N[i]? = some y := by rfl) (hyl : X.env.scope.names.lookup y = some .local := by rfl)
    (hsw : swapsWith (.ListComp elt [⟨tg, iter, ifs, 0⟩] scope pos) (some (.Name y py)) spos.line X.env = pure true := by exact sw_true rfl rfl rfl (by decide +kernel)) (hs : ∀ x, foldedSetIterable iter X.env x = pure x := by intro _; rfl) :
    M3 X (.Assign [.Name y py] (.ListComp elt [⟨tg, iter, ifs, 0⟩] scope pos) spos) (xAsg (xLc w g tt te (own.map (·.2))) (xGName i)) := by
  refine ⟨fun W tk => ?_⟩
  obtain ⟨wi, ei, si⟩ := hi.ex
  exact ⟨_, ps_setLc hc hN hy hyl hsw ei ok (fun s H C cl fp => (hg s H C cl fp).low) (fun s H C cl fp => (ht s H C cl fp).pt) (fun s H C cl fp => (he s H C cl fp).low) hs, fun G Z H r s D D3 st h im =>
    lc_run si hj st h fun Z1 H1 x v r1 g1 st1 q => im.nx Z1 H1 _ _ g1 st1.store q⟩
end
/-! ### what is walked -/
theorem walks_L {K : PySem.W.Frag} {Z : Hp} {a : Addr} {xs : List V} {l : List PyData} (hs : SqL K Z a xs) (hd : DqAll K Z xs l) : Walks K Z (Itl K a) l := fun Z' H i z zh => by
  have hs2 : SqL K H a xs := zh.L (z.L hs)
  refine ⟨fun x hx => ?_, fun hi => ⟨xs, hs2, by rw [← dpa_len hd]; exact hi⟩⟩
  obtain ⟨v, ev, dv⟩ := dpa_get hd hx
  refine ⟨⟨xs, v, hs2, ev⟩, fun u H' y => .inl ⟨y.1, ?_⟩⟩
  have := y.2 xs hs2
  rw [ev] at this
  cases this
  exact dp_mono z x v dv
theorem walks_T {K : PySem.W.Frag} {Z : Hp} {a : Addr} {xs : List V} {l : List PyData} (hs : SqT K Z a xs) (hd : DqAll K Z xs l) : Walks K Z (Itt K a) l := fun Z' H i z zh => by
  have hs2 : SqT K H a xs := zh.T (z.T hs)
  refine ⟨fun x hx => ?_, fun hi => ⟨xs, hs2, by rw [← dpa_len hd]; exact hi⟩⟩
  obtain ⟨v, ev, dv⟩ := dpa_get hd hx
  refine ⟨⟨xs, v, hs2, ev⟩, fun u H' y => .inl ⟨y.1, ?_⟩⟩
  have := y.2 xs hs2
  rw [ev] at this
  cases this
  exact dp_mono z x v dv
/-- lo, lo + 1, .., n of them -/
def rangeI (lo : Int) (n : Nat) : List PyData := (List.range n).map fun i => PyData.int (lo + (i : Nat))
theorem rangeI_len (lo : Int) (n : Nat) : (rangeI lo n).length = n := by unfold rangeI; rw [List.length_map, List.length_range]
theorem rangeI_get {lo : Int} {n i : Nat} {x : PyData} (h : (rangeI lo n)[i]? = some x) : i < n ∧ x = .int (lo + (i : Nat)) := by
  unfold rangeI at h
  rw [List.getElem?_map] at h
  by_cases hi : i < n
  · rw [List.getElem?_range hi] at h
    exact ⟨hi, (Option.some.inj h).symm⟩
  · rw [List.getElem?_eq_none (by rw [List.length_range]; omega)] at h
    cases h
theorem walks_R {K : PySem.W.Frag} {Z : Hp} {lo : Int} {n : Nat} : Walks K Z (Itr lo n) (rangeI lo n) := fun Z' H i z zh => by
  refine ⟨fun x hx => ?_, fun hi => by rw [rangeI_len] at hi; exact hi⟩
  obtain ⟨h1, rfl⟩ := rangeI_get hx
  exact ⟨h1, fun v H' y => .inl ⟨y.1, by rw [y.2]; exact .int _⟩⟩
def rangeD (hi : Int) (n : Nat) : List PyData := (List.range n).map fun i => PyData.int (hi - (i : Nat))
theorem rangeD_len (lo : Int) (n : Nat) : (rangeD lo n).length = n := by unfold rangeD; rw [List.length_map, List.length_range]
theorem rangeD_get {lo : Int} {n i : Nat} {x : PyData} (h : (rangeD lo n)[i]? = some x) : i < n ∧ x = .int (lo - (i : Nat)) := by
  unfold rangeD at h
  rw [List.getElem?_map] at h
  by_cases hi : i < n
  · rw [List.getElem?_range hi] at h
    exact ⟨hi, (Option.some.inj h).symm⟩
  · rw [List.getElem?_eq_none (by rw [List.length_range]; omega)] at h
    cases h
theorem walks_D {K : PySem.W.Frag} {Z : Hp} {lo : Int} {n : Nat} : Walks K Z (Itc lo (-1) n) (rangeD lo n) := fun Z' H i z zh => by
  refine ⟨fun x hx => ?_, fun hi => by rw [rangeD_len] at hi; exact hi⟩
  obtain ⟨h1, rfl⟩ := rangeD_get hx
  refine ⟨h1, fun v H' y => .inl ⟨y.1, ?_⟩⟩
  rw [y.2, show lo + (i : Int) * -1 = lo - (i : Int) by omega]
  exact .int _
section
variable {X : Cx} {e a b c : Expr} {tg : Expr} {t ta tb tc : TE3} {pos p : Pos}
/-- over a list or a tuple -/
def iSeq (K : PySem.W.Frag) (tl : TE) : TI := fun σ H R => tl σ H fun x H1 => ∃ a, x = .ref a ∧ (((∃ xs, SqL K H1 a xs) ∧ R (Itl K a) H1) ∨ ((∃ xs, SqT K H1 a xs) ∧ R (Itt K a) H1))
theorem pi_seq {l : Expr} {tl : TE} (hl : PE X l tl) : PI X tg l (iSeq X.K tl) := by
  refine ⟨fun pins s σ H R I h => ?_⟩
  refine thn (hl.run pins s σ H _ I h) fun v s1 ⟨x, H1, I1, r1, q1⟩ => ?_
  obtain ⟨a, e, ⟨⟨xs, hq⟩, q⟩ | ⟨⟨xs, hq⟩, q⟩⟩ := q1
  · subst e
    cases r1
    obtain ⟨its, rv, p, hz⟩ := I1.list hq
    refine wpAny_pyIter_list p.isList ?_
    refine ⟨s1.heap.objs.size, [s1.heap.objs.size], _, _, H1, rfl, I1.kept (t' := s1.toks) fun b o e => Heap.get?_push_of_some _ e, turn_list a _, ⟨_, Heap.get?_push_size _ rfl, rfl, rfl⟩, fun b hb => ?_, q⟩
    have e : b = s1.heap.objs.size := by simpa using hb
    subst e
    exact I1.fpOk (Nat.le_refl _) (I1.hok.fresh (Nat.le_refl _))
  · subst e
    cases r1
    obtain ⟨its, rv, p, hz⟩ := I1.tuple hq
    refine wpAny_pyIter_tuple (show s1.heap.IsTuple a its.toArray from p) ?_
    refine ⟨s1.heap.objs.size, [s1.heap.objs.size], _, _, H1, rfl, I1.kept (t' := s1.toks) fun b o e => Heap.get?_push_of_some _ e, turn_tuple a _, ⟨_, Heap.get?_push_size _ rfl, rfl, rfl⟩, fun b hb => ?_, q⟩
    have e : b = s1.heap.objs.size := by simpa using hb
    subst e
    exact I1.fpOk (Nat.le_refl _) (I1.hok.fresh (Nat.le_refl _))
def xSeqI (t : TE3) : TI3 := fun r R => t r fun x r' => match x with | .d (.list l) => R l r' | .d (.tuple l) => R l r' | .sc _ ns => R (ns.map PyData.int) r' | _ => False
theorem i3_seq (h : R3 X e t) : I3 X tg e (xSeqI t) := by
  obtain ⟨te, ee, se⟩ := h.ex
  refine ⟨_, pi_seq ee, fun G Z H ks vs r s R Q3 st ht k => se G Z H ks vs r s _ _ st ht fun Z1 H1 x v r1 g1 st1 pv q => ?_⟩
  split at q
  · cases (show Dq X.K Z1 v (.list _) from pv) with
    | lst hs ha => exact ⟨_, rfl, .inl ⟨⟨_, SqL.of (st1.zh _ _ hs)⟩, k Z1 H1 _ _ r1 g1 st1 (walks_L (SqL.of hs) ha) q⟩⟩
  · cases (show Dq X.K Z1 v (.tuple _) from pv) with
    | tup hs ha => exact ⟨_, rfl, .inr ⟨⟨_, SqT.of (st1.zh _ _ hs)⟩, k Z1 H1 _ _ r1 g1 st1 (walks_T (SqT.of hs) ha) q⟩⟩
  · obtain ⟨rfl, hs⟩ := pv
    exact ⟨_, rfl, .inl ⟨⟨_, st1.zh.L hs⟩, k Z1 H1 _ _ r1 g1 st1 (walks_L hs (dqa_ints _)) q⟩⟩
  · exact q.elim
def xR1 (t : TE3) : TI3 := fun r R => t r fun x r' => asI x fun j => j < 2 ^ 62 ∧ -(2 ^ 62) ≤ j ∧ R (rangeI 0 j.toNat) r'
theorem i3_range1 (hg : Gl X "range") (hm : X.mg "range" = none) (ha : R3 X a ta) (hs : starEach [a] X.env = [(false, eval a X.env)] := by rfl) : I3 X tg (.Call (.Name "range" p) [a] [] pos) (xR1 ta) := by
  obtain ⟨te, ee, se⟩ := ha.ex
  refine ⟨_, pi_range1 hg hm (pa_cons ee pa_nil hs) hs, fun G Z H ks vs r s R Q3 st ht k => se G Z H ks vs r s _ _ st ht fun Z1 H1 x v r1 g1 st1 pv q => ?_⟩
  obtain ⟨j, rfl, h1, h2, q⟩ := asI_of q
  exact ⟨j, by rw [pv.int], h2, h1, k Z1 H1 _ _ r1 g1 st1 walks_R q⟩
def xR2 (ta tb : TE3) : TI3 := fun r R => ta r fun x r1 => tb r1 fun y r2 => asI x fun i => asI y fun j => (-(2 ^ 62) ≤ i ∧ i < 2 ^ 62 ∧ -(2 ^ 62) ≤ j ∧ j < 2 ^ 62) ∧ R (rangeI i (j - i).toNat) r2
theorem i3_range2 (hg : Gl X "range") (hm : X.mg "range" = none) (ha : R3 X a ta) (hb : R3 X b tb) (hs : starEach [a, b] X.env = [(false, eval a X.env), (false, eval b X.env)] := by rfl) (hs2 : starEach [b] X.env = [(false, eval b X.env)] := by rfl)
    (he : starEach [a, b] X.env = (false, eval a X.env) :: starEach [b] X.env := by rfl) : I3 X tg (.Call (.Name "range" p) [a, b] [] pos) (xR2 ta tb) := by
  obtain ⟨te, ee, se⟩ := ha.ex
  obtain ⟨tf, ef, sf⟩ := hb.ex
  refine ⟨_, pi_range2 hg hm (pa_cons ee (pa_cons ef pa_nil hs2) he) hs hs2, fun G Z H ks vs r s R Q3 st ht k => se G Z H ks vs r s _ _ st ht fun Z1 H1 x v r1 g1 st1 pv q => sf G Z1 H1 ks vs r1 s _ _ st1 q fun Z2 H2 y u r2 g2 st2 pv2 q => ?_⟩
  obtain ⟨i, rfl, q1⟩ := asI_of q
  obtain ⟨j, rfl, hb, q2⟩ := asI_of q1
  exact ⟨i, j, by rw [pv.int, pv2.int], hb, k Z2 H2 _ _ r2 (g1.trans g2) st2 walks_R q2⟩
/-- range(a, b, -1) -/
def xR3 (ta tb tc : TE3) : TI3 := fun r R => ta r fun x r1 => tb r1 fun y r2 => tc r2 fun z r3 => asI x fun i => asI y fun j => asI z fun l => l = -1 ∧ (-(2 ^ 62) ≤ i ∧ i < 2 ^ 62 ∧ -(2 ^ 62) ≤ j ∧ j < 2 ^ 62) ∧ R (rangeD i (i - j).toNat) r3
theorem i3_range3 (hg : Gl X "range") (hm : X.mg "range" = none) (ha : R3 X a ta) (hb : R3 X b tb) (hc : R3 X c tc) (hs : starEach [a, b, c] X.env = (false, eval a X.env) :: starEach [b, c] X.env := by rfl) (hs2 : starEach [b, c] X.env = (false, eval b X.env) :: starEach [c] X.env := by rfl)
    (hs3 : starEach [c] X.env = (false, eval c X.env) :: starEach [] X.env := by rfl) (hpl : (backTo pos (starEach [b, c] X.env)).any (·.1) = false := by rfl) : I3 X tg (.Call (.Name "range" p) [a, b, c] [] pos) (xR3 ta tb tc) := by
  obtain ⟨te, ee, se⟩ := ha.ex
  obtain ⟨tf, ef, sf⟩ := hb.ex
  obtain ⟨tg', eg, sg⟩ := hc.ex
  refine ⟨_, pi_range3 hg hm (pa_cons ee (pa_cons ef (pa_cons eg pa_nil hs3) hs2) hs) hs hpl, fun G Z H ks vs r s R Q3 st ht k => se G Z H ks vs r s _ _ st ht fun Z1 H1 x v r1 g1 st1 pv q => sf G Z1 H1 ks vs r1 s _ _ st1 q fun Z2 H2 y u r2 g2 st2 pv2 q => sg G Z2 H2 ks vs r2 s _ _ st2 q fun Z3 H3 z u3 r3 g3 st3 pv3 q => ?_⟩
  obtain ⟨i, rfl, q1⟩ := asI_of q
  obtain ⟨j, rfl, q2⟩ := asI_of q1
  obtain ⟨l, rfl, rfl, ⟨b1, b2, b3, b4⟩, q3⟩ := asI_of q2
  exact ⟨i, j, -1, _, by rw [pv.int, pv2.int, pv3.int], RgC.neg b1 b2 b3 b4, k Z3 H3 _ _ r3 ((g1.trans g2).trans g3) st3 walks_D q3⟩
/-- zip of two lists or of two tuples -/
def zipD (l m : List PyData) : List PyData := List.zipWith (fun x y => PyData.tuple [x, y]) l m
end
end L3
namespace L3
open PySem PySem.Spec PyProof.Rows L2
/-! ### methods of a list of one's own, at a name -/
section
variable {X : Cx} {e : Expr} {t : TE3} {pos p apos : Pos}
/-- x.append(e) -/
def xApp (i : Nat) (t : TE3) : TE3 := fun r Q => match r[i]? with
  | some (some (.own _ _)) => t r fun y r1 => (match r1[i]? with
    | some (some (.own a l)) => l.length < sizeLine ∧ Q (.d .none) (r1.set i (some (.own a (l ++ [y]))))
    | _ => False)
  | _ => False
theorem p3_append (i : Nat) {x : Str} (he : P3 X e t) (hN : X.N[i]? = some x := by rfl) (hv : Vis X.env.scope x := by first | exact Or.inl rfl | exact Or.inr (Or.inl rfl) | exact Or.inr (Or.inr rfl)) (hd : (x == ("__debug__" : Str)) = false := by decide)
    (hcd : (x == ("__classdict__" : Str)) = false := by decide) (hbase : attributeBase (.Name x p) "append" X.env (eval (.Name x p) X.env) = eval (.Name x p) X.env := by rfl) (hline : (apos.endLine == pos.line) = true := by rfl)
    (hfew : ((backTo pos (starEach [e] X.env)).all (fun x => !x.1) && (backToKw pos (keywordEach [] X.env)).all (fun x => x.1.isSome) && decide ([e].length + ([] : List Keyword).length + (if ([] : List Keyword).isEmpty then 0 else 1) < 30)) = true := by rfl)
    (hs : starEach [e] X.env = (false, eval e X.env) :: starEach [] X.env := by rfl) (hpl : (backTo pos (starEach [] X.env)).any (·.1) = false := by rfl) :
    P3 X (.Call (.Attribute (.Name x p) "append" apos) [e] [] pos) (xApp i t) := by
  obtain ⟨te, ee, se⟩ := he.ex
  refine ⟨_, pe_bm PySem.F.plainAttrs_list PySem.F.slot_list_append PySem.F.type_list_append mt_append (pe_var hN hv hd hcd) (pa_cons ee pa_nil hs) hbase hfew hline hs hpl, fun G Z H ks vs r s Q Q3 st ht k => ?_⟩
  unfold xApp at ht
  split at ht
  · rename_i a0 l0 hr0
    obtain ⟨w, ew, rt0⟩ := st.slot i _ hr0
    cases rt0 with
    | own e1 e2 =>
      refine ⟨_, ew, .inl ⟨rfl, _, SqL.of e1⟩, se G Z H ks vs r s _ _ st ht fun Z1 H1 y v r1 g1 st1 q => ?_⟩
      split at q
      · rename_i a l hr
        obtain ⟨w2, ew2, st2⟩ := st1.take hr
        rw [ew] at ew2
        cases ew2
        have rt := st2.top
        cases rt with
        | @own _ _ xs k1 k2 =>
          have st3 := S3.mid' (l := [y]) (xs := [v]) rfl st2
          have rx : RT X.K Z1 H1 y v := by cases st3.stk with | cons q _ => exact q
          have st4 := st3.write (l' := l ++ [y]) (xs' := xs ++ [v]) (rts_snoc k2 rx) (fun b => by rw [cts_append]; simp only [cts]; omega)
          have st5 := st4.back (i := i) (by rw [List.length_set]; exact (List.getElem?_eq_some_iff.mp hr).1) ew
          rw [List.set_set] at st5
          exact ⟨_, xs, v, rfl, rfl, k1, by rw [← rts_len k2]; exact q.1, k _ _ _ _ _ g1 (st5.pushD .non) q.2⟩
      · exact q.elim
  · exact ht.elim
end
/-! ### a def's promise by its body -/
def start3 (N : List Str) (ts : List T) : Rho := ts.map some ++ List.replicate (N.length - ts.length) none
/-- the arguments as they stand behind the body: lists of one's own may have changed -/
def finOk : List T → Rho → Prop
  | [], _ => True
  | .own a _ :: ts, some (.own b _) :: r => a = b ∧ finOk ts r
  | .d _ :: ts, _ :: r => finOk ts r
  | .v _ :: ts, _ :: r => finOk ts r
  | .sc _ _ :: ts, _ :: r => finOk ts r
  | _, _ => False
def finF : List T → Rho → List T
  | .own _ _ :: ts, some (.own b l) :: r => .own b l :: finF ts r
  | .d x :: ts, _ :: r => .d x :: finF ts r
  | .v x :: ts, _ :: r => .v x :: finF ts r
  | .sc a ns :: ts, _ :: r => .sc a ns :: finF ts r
  | _, _ => []
theorem cto_fin (a : Addr) : ∀ (ts : List T) (r : Rho), finOk ts r → cts a (finF ts r) ≤ cto a r
  | [], r, _ => by simp [finF, cts]
  | .own b l :: ts, [], h => by simp [finOk] at h
  | .own b l :: ts, none :: r, h => by simp [finOk] at h
  | .own b l :: ts, some (.own c m) :: r, h => by
    have h2 : b = c ∧ finOk ts r := h
    have := cto_fin a ts r h2.2
    simp only [finF, cts, cto]
    omega
  | .own b l :: ts, some (.d _) :: r, h => by simp [finOk] at h
  | .own b l :: ts, some (.v _) :: r, h => by simp [finOk] at h
  | .own b l :: ts, some (.sc _ _) :: r, h => by simp [finOk] at h
  | .own b l :: ts, some (.tp _) :: r, h => by simp [finOk] at h
  | .d x :: ts, [], h => by simp [finOk] at h
  | .v x :: ts, [], h => by simp [finOk] at h
  | .sc b ns :: ts, [], h => by simp [finOk] at h
  | .d x :: ts, q :: r, h => by
    have := cto_fin a ts r h
    rw [cto_cons]
    simp only [finF, cts, ct]
    omega
  | .v x :: ts, q :: r, h => by
    have := cto_fin a ts r h
    rw [cto_cons]
    simp only [finF, cts, ct]
    omega
  | .sc b ns :: ts, q :: r, h => by
    have := cto_fin a ts r h
    rw [cto_cons]
    simp only [finF, cts, ct]
    omega
  | .tp l :: ts, r, h => by cases r <;> simp [finOk] at h
theorem rts_fin {K : PySem.W.Frag} {Z Z' H H' : Hp} (z : Sub Z Z') : ∀ (ts : List T) (vs : List V) (r : Rho) (s : L2.St), RTs K Z H ts vs → finOk ts r → r.length = s.length → (∀ (i : Nat) (t : T), r[i]? = some (some t) → ∃ v, s[i]? = some (some v) ∧ RT K Z' H' t v) → RTs K Z' H' (finF ts r) vs
  | [], _, r, s, .nil, _, _, _ => .nil
  | t :: ts, _, [], s, .cons p q, h, _, _ => by cases t <;> simp [finOk] at h
  | t :: ts, _, x :: r, [], .cons p q, h, hl, _ => by simp at hl
  | t :: ts, v :: vs, x :: r, y :: s, .cons p q, h, hl, hs => by
    have tail : finOk ts r → RTs K Z' H' (finF ts r) vs := fun h => rts_fin z ts _ r s q h (by simpa using hl) fun i t e => by
      have := hs (i + 1) t (by simpa using e)
      simpa using this
    cases t with
    | d x0 =>
      cases p with
      | d p => exact .cons (.d (dp_mono z _ _ p)) (tail h)
    | v x0 => cases p; exact .cons .v (tail h)
    | sc a ns =>
      cases p with
      | sc p => exact .cons (.sc (z.L p)) (tail h)
    | tp l => simp [finOk] at h
    | own a l =>
      cases x with
      | none => simp [finOk] at h
      | some t' =>
        cases t' with
        | own b m =>
          have h2 : a = b ∧ finOk ts r := h
          obtain ⟨rfl, h3⟩ := h2
          obtain ⟨w, e1, rt⟩ := hs 0 (.own a m) rfl
          have e2 : y = some w := by simpa using e1
          cases p with
          | own p1 p2 =>
            cases rt with
            | own q1 q2 => exact .cons (.own q1 q2) (tail h3)
        | d _ => simp [finOk] at h
        | v _ => simp [finOk] at h
        | sc _ _ => simp [finOk] at h
        | tp _ => simp [finOk] at h
section
variable {P : Program} {w : World} {K : PySem.W.Frag} {mg : Str → Option Value} {base : Heap}
theorem start_st {G Z H : Hp} {ts : List T} {vs : List V} {N : List Str} (h : S3 K G Z H ts vs [] []) : S3 K G Z H [] [] (start3 N ts) (L2.start N vs) := by
  have hl := rts_len h.stk
  have cs : ∀ (a : Addr) (l : List T) (n : Nat), cto a (l.map some ++ List.replicate n none) = cts a l := by
    intro a l n
    induction l with
    | nil =>
      induction n with
      | zero => rfl
      | succ n ih => rw [List.map_nil, List.nil_append, List.replicate_succ]; show cto a (List.replicate n none) = _; simpa using ih
    | cons t l ih => simp only [List.map_cons, List.cons_append, cto, cts, ih]
  refine ⟨h.zh, h.gh, fun a => ?_, fun a c => h.ow a ?_, .nil, fun i t e => ?_, ?_⟩
  · have := h.one a
    unfold start3
    rw [cs]
    simp only [cts, cto] at *
    omega
  · unfold start3 at c
    rw [cs] at c
    simp only [cts, cto] at *
    omega
  · unfold start3 at e
    unfold L2.start
    by_cases hi : i < ts.length
    · rw [List.getElem?_append_left (by rw [List.length_map]; exact hi), List.getElem?_map] at e
      cases q : ts[i]? with
      | none => rw [q] at e; cases e
      | some t' =>
        rw [q] at e
        cases e
        obtain ⟨v, ev, rt⟩ := rts_get h.stk q
        exact ⟨v, by rw [List.getElem?_append_left (by rw [List.length_map, ← hl]; exact hi), List.getElem?_map, ev]; rfl, rt⟩
    · rw [List.getElem?_append_right (by rw [List.length_map]; omega), List.getElem?_replicate] at e
      split at e <;> cases e
  · unfold start3 L2.start
    rw [List.length_append, List.length_append, List.length_map, List.length_map, List.length_replicate, List.length_replicate, hl]
/-- THE RULE for a def that raises nothing: its body by values -/
theorem ok3 {x qual : Str} {st : Stmt} {f : Addr} {fd : FuncData} {N ps : List Str} {k : Nat} {sp : Sp3} (F : Fun K x qual st f fd) (S : FnScope N ps (defScope st)) (len : ∀ ts Q E, sp ts Q E → ts.length = ps.length)
    (hbody : ∀ (cdv : Value) (A : Around) (outer : List Env) (s : Shared) (H : Hp) (E : XK), Room k (A.deeper (envOfC qual (defScope st) s.heap.objs.size f cdv)) →
      ∃ t, B3 (cxOf CX0 P w K mg base N qual (defScope st) f cdv A outer s H E).nox (defBody st) t ∧ ∀ ts Q3 E3, sp ts Q3 E3 → t { nx := fun r => finOk ts r ∧ Q3 (.d .none) (finF ts r), rt := fun x r => finOk ts r ∧ Q3 x (finF ts r) } (start3 N ts)) :
    FnOk P w K mg base CX0 (k + 1) f fd ps (lift K sp) := by
  refine F.ok S (fun vs H Q E h => ?_) (fun cdv A outer s H vs Q E hr h => ?_)
  · obtain ⟨G, Z, ts, Q3, E3, st, hsp, _⟩ := h
    rw [← rts_len st.stk]
    exact len _ _ _ hsp
  · obtain ⟨G, Z, ts, Q3, E3, st, hsp, hq, _⟩ := h
    obtain ⟨t, hB, ht⟩ := hbody cdv A outer s H E hr
    obtain ⟨te, eb, sb⟩ := hB.ex _ takes0
    have ret : ∀ Z' H' r' s' x v, Gr G Z Z' → S3 K G Z' H' [x] [v] r' s' → (finOk ts r' ∧ Q3 x (finF ts r')) → Q v H' := fun Z' H' r' s' x v g st' q => by
      refine hq Z' H' x v (finF ts r') g ⟨st'.zh, st'.gh, fun a => ?_, fun a c => st'.ow a ?_, .cons st'.top (rts_fin g.sub ts vs r' s' st.stk q.1 st'.len st'.slot), fun i t e => by simp at e, rfl⟩ q.2
      · have h1 := st'.one a
        have h2 := cto_fin a ts r' q.1
        simp only [cts, cto] at *
        omega
      · have h2 := cto_fin a ts r' q.1
        simp only [cts, cto] at *
        omega
    exact ⟨te, eb, sb G Z H _ _ _ _ (start_st st) (ht ts Q3 E3 hsp) ⟨fun Z' H' r' s' g st' q => ret Z' H' r' s' _ _ g (st'.pushD .non) q, fun Z' H' r' s' x v g st' q => ret Z' H' r' s' x v g st' q, fun _ _ _ _ _ _ q => q.elim, fun _ _ _ _ _ _ q => q.elim, fun _ _ _ _ _ _ _ q => q.elim⟩⟩
/-- the law's own promise -/
def spLaw : Sp3 := fun ts Q _ => ∃ a ns, ts = [.sc a ns] ∧ ns.length ≤ 63 ∧ ∀ ts', Q (.d (.bool true)) ts'
theorem spLaw_of (H : Hp) (a : Addr) (ns : List Int) (hl : ns.length ≤ 63) (hS : SqL K H a (ns.map V.int)) : lift K spLaw [.ref a] H (fun v _ => v = .bl true) fun _ _ _ => False := by
  refine ⟨fun _ => none, H, [.sc a ns], fun x _ => x = .d (.bool true), fun _ _ => False, ⟨Sub.refl _, fun a o e => (by cases e), fun b => (by simp [cts, ct, cto]), fun b c => (by simp [cts, ct, cto] at c), .cons (.sc hS) .nil, fun i t e => by simp at e, rfl⟩, ⟨a, ns, rfl, hl, fun _ => rfl⟩, fun Z' H' x v ts' g st q => ?_, fun _ _ _ _ _ _ q => q.elim⟩
  subst q
  have h := st.top
  cases h with
  | d h => cases h; rfl
end
end L3
namespace L3
open PySem PySem.Spec PyProof.Rows L2
/-! ### the short names that the printed bodies use -/
abbrev kAdd : C2 := cI0 fun i j => .int (i + j)
abbrev kSub : C2 := cI0 fun i j => .int (i - j)
abbrev kMul : C2 := cI MulOk fun i j => .int (i * j)
abbrev kDiv : C2 := cI CDivW fun i j => .int (i / j)
abbrev kMod : C2 := cI (fun _ j => 0 < j) fun i j => .int (i % j)
abbrev kPow : C2 := cI CPow fun i j => .int (i ^ j.toNat)
abbrev kLt : C2 := cI0 fun i j => .bool (decide (i < j))
abbrev kLe : C2 := cI0 fun i j => .bool (decide (i ≤ j))
abbrev kGt : C2 := cI0 fun i j => .bool (decide (j < i))
abbrev kGe : C2 := cI0 fun i j => .bool (decide (j ≤ i))
abbrev kMax : C2 := cI0 fun i j => .int (max i j)
abbrev kMin : C2 := cI0 fun i j => .int (min i j)
abbrev kEq : C2 := cEq fun b => b
abbrev kNe : C2 := cEq fun b => !b
abbrev kEqI : C2 := cEqI fun b => b
abbrev kNeI : C2 := cEqI fun b => !b
abbrev kIsN : C2 := cIsN fun b => b
abbrev kNotN : C2 := cIsN fun b => !b
abbrev pLe : Int → Int → Bool := fun i j => decide (i ≤ j)
abbrev xAugAdd : Nat → TE3 → TS3 := xAug (fun _ _ => True) fun i j => i + j
abbrev xAugMul : Nat → TE3 → TS3 := xAug MulOk fun i j => i * j
abbrev xNoE : Addr → List T → Prop := fun _ _ => False
/-! ### a def of the module, by its name -/
def Cal (P : Program) (w : World) (K : PySem.W.Frag) (mg : Str → Option Value) (base : Heap) (x : Str) (k : Nat) (ps : List Str) (sp : Sp3) : Prop :=
  ∃ f fd, FnOk P w K mg base CX0 k f fd ps (lift K sp) ∧ mg x = some (.ref f) ∧ PySem.W.keepIn K (.ref f) = true ∧ Binds K fd ps []
section
variable {X : Cx} {es : List Expr} {e : Expr} {u : TC3} {pos p : Pos} {sp : Sp3} {k j : Nat} {ps : List Str} {x : Str} {t ta : TE3}
theorem p3_cal (c : Cal X.prog X.w X.K X.mg X.base x k ps sp) (hr : Room k X.A) (hg : Gl X x) (hu : C3 X (e :: es) u)
    (hdb : (x == ("__debug__" : Str)) = false := by decide) (he : starEach (e :: es) X.env = (false, eval e X.env) :: starEach es X.env := by rfl) (hpl : (backTo pos (starEach es X.env)).any (·.1) = false := by rfl) :
    P3 X (.Call (.Name x p) (e :: es) [] pos) (xCall sp xNoE u) := by
  obtain ⟨f, fd, F, hm, hk, hb⟩ := c
  exact p3_call F hr hg hm hk hb hu hdb he hpl
end
/-! ### isinstance -/
end L3
namespace L3
open PySem PySem.Spec PyProof.Rows L2
section
variable {P : Program} {w : World} {K : PySem.W.Frag} {mg : Str → Option Value} {base : Heap}
/-- a promise that nobody asks for -/
theorem ok0 {x qual : Str} {st : Stmt} {f : Addr} {fd : FuncData} {N ps : List Str} {k : Nat} {sp : Sp3} (F : Fun K x qual st f fd) (S : FnScope N ps (defScope st)) (z : ∀ ts Q E, sp ts Q E → False) : FnOk P w K mg base CX0 (k + 1) f fd ps (lift K sp) := by
  refine F.ok S (fun vs H Q E h => ?_) (fun cdv A outer s H vs Q E hr h => ?_)
  · obtain ⟨G, Z, ts, Q3, E3, st, hsp, _⟩ := h
    exact (z _ _ _ hsp).elim
  · obtain ⟨G, Z, ts, Q3, E3, st, hsp, _⟩ := h
    exact (z _ _ _ hsp).elim
theorem Cal.mono {x : Str} {j k : Nat} {ps : List Str} {sp : Sp3} (c : Cal P w K mg base x j ps sp) (h : j ≤ k) : Cal P w K mg base x k ps sp := by
  obtain ⟨f, fd, F, r⟩ := c
  exact ⟨f, fd, F.mono h, r⟩
end
end L3
namespace L3
open PySem PySem.Spec PyProof.Rows L2
/-! ### lists of one's own lent to an expression that only reads -/
/-- a slot as it is lent -/
def borQ : Option T → Option T
  | some (.own a l) => some (.d (fz (.own a l)))
  | some (.tp l) => some (.d (fz (.tp l)))
  | q => q
/-- every list of one's own may be lent -/
def nvR : Rho → Prop
  | [] => True
  | some (.own _ l) :: r => nvs l = true ∧ nvR r
  | some (.tp l) :: r => nvs l = true ∧ nvR r
  | _ :: r => nvR r
theorem nvR_at : ∀ {r : Rho} {i : Nat} {t : T}, nvR r → r[i]? = some (some t) → (∀ a l, t = .own a l → nvs l = true) ∧ (∀ l, t = .tp l → nvs l = true)
  | [], i, t, h, e => by simp at e
  | q :: r, i + 1, t, h, e => by
    have e2 : r[i]? = some (some t) := by simpa using e
    match q, h with
    | none, h => exact nvR_at (r := r) h e2
    | some (.d _), h => exact nvR_at (r := r) h e2
    | some (.v _), h => exact nvR_at (r := r) h e2
    | some (.sc _ _), h => exact nvR_at (r := r) h e2
    | some (.own _ _), h => exact nvR_at (r := r) h.2 e2
    | some (.tp _), h => exact nvR_at (r := r) h.2 e2
  | q :: r, 0, t, h, e => by
    have e2 : q = some t := by simpa using e
    subst e2
    refine ⟨fun a l k => ?_, fun l k => ?_⟩
    · subst k; exact h.1
    · subst k; exact h.1
def bor (r : Rho) : Rho := r.map borQ
theorem cto_bor (a : Addr) (r : Rho) : cto a (bor r) = 0 := by
  induction r with
  | nil => rfl
  | cons q r ih =>
    show cto a (borQ q :: bor r) = 0
    rw [cto_cons, ih]
    have z : ctq a (borQ q) = 0 := by
      match q with
      | none => rfl
      | some (.d _) => rfl
      | some (.v _) => rfl
      | some (.sc _ _) => rfl
      | some (.own b l) => rfl
      | some (.tp l) => rfl
    rw [z]
section
variable {K : PySem.W.Frag} {G Z Z' H H' : Hp} {ks : List T} {vs : List V} {r r' : Rho} {s : L2.St} {t : T} {v : V} {i : Nat} {a : Addr}
def lent (Z H : Hp) (ks : List T) (r : Rho) : Hp := fun a => if 0 < cts a ks + cto a r then H a else Z a
theorem S3.lentS (h : S3 K G Z H ks vs r s) : Sub Z (lent Z H ks r) := fun a o e => by
  unfold lent
  split
  · exact h.zh a o e
  · exact e
theorem S3.lend (h : S3 K G Z H ks vs r s) (nr : nvR r) : S3 K G (lent Z H ks r) H [] [] (bor r) s := by
  refine ⟨fun a o e => ?_, h.gh, fun a => ?_, fun a c => ?_, .nil, fun i t e => ?_, ?_⟩
  · unfold lent at e
    split at e
    · exact e
    · exact h.zh a o e
  · rw [cto_bor]; simp [cts]
  · rw [cto_bor] at c; simp [cts] at c
  · unfold bor at e
    rw [List.getElem?_map] at e
    cases q : r[i]? with
    | none => rw [q] at e; cases e
    | some x =>
      rw [q] at e
      have e2 : borQ x = some t := Option.some.inj e
      have lz : ∀ t', r[i]? = some (some t') → ∀ b, 0 < ct b t' → ∀ o, H b = some o → lent Z H ks r b = some o := fun t' e3 b hb o e4 => by
        have := cto_get b r i t' e3
        unfold lent
        rw [if_pos (by omega)]
        exact e4
      match x, e2 with
      | some (.d d), e2 =>
        cases e2
        obtain ⟨v, ev, rt⟩ := h.slot i _ q
        exact ⟨v, ev, rt_mono h.lentS _ _ (fun _ _ _ e => e) rt⟩
      | some (.v d), e2 =>
        cases e2
        obtain ⟨v, ev, rt⟩ := h.slot i _ q
        exact ⟨v, ev, rt_mono h.lentS _ _ (fun _ _ _ e => e) rt⟩
      | some (.sc _ _), e2 =>
        cases e2
        obtain ⟨v, ev, rt⟩ := h.slot i _ q
        exact ⟨v, ev, rt_mono h.lentS _ _ (fun _ _ _ e => e) rt⟩
      | some (.own b l), e2 =>
        cases e2
        obtain ⟨v, ev, rt⟩ := h.slot i _ q
        exact ⟨v, ev, .d (rt_fz h.lentS _ _ (by simpa [nv] using (nvR_at nr q).1 _ _ rfl) (lz _ q) rt)⟩
      | some (.tp l), e2 =>
        cases e2
        obtain ⟨v, ev, rt⟩ := h.slot i _ q
        exact ⟨v, ev, .d (rt_fz h.lentS _ _ (by simpa [nv] using (nvR_at nr q).2 _ rfl) (lz _ q) rt)⟩
  · unfold bor; rw [List.length_map]; exact h.len
def unlent (Z Z' : Hp) : Hp := fun a => match Z' a with | some (.lst _) => Z a | o => o
theorem unlent_t (Z Z' : Hp) : SubT Z' (unlent Z Z') := fun a o e n => by
  unfold unlent
  rw [e]
  split
  · rename_i xs q; cases q; exact absurd rfl (n xs)
  · rfl
theorem S3.unlend (h : S3 K G Z H ks vs r s) {ks' : List T} {vs' : List V} {r' : Rho} (g : Gr G (lent Z H ks r) Z') (h' : S3 K G Z' H' ks' vs' r' s) (lf : lfts ks' = true) : Gr G Z (unlent Z Z') ∧ S3 K G (unlent Z Z') H' (ks' ++ ks) (vs' ++ vs) r s := by
  have zz : Sub Z Z' := h.lentS.trans g.sub
  have ze : Sub Z (unlent Z Z') := fun a o e => by
    unfold unlent
    rw [zz a o e]
    split
    · exact e
    · rfl
  have at' : ∀ a, 0 < cts a ks + cto a r → ∀ o, H a = some o → Z' a = some o := fun a c o e => g.sub a o (by unfold lent; rw [if_pos c]; exact e)
  have nz : ∀ a, 0 < cts a ks + cto a r → unlent Z Z' a = none := fun a c => by
    obtain ⟨xs, e⟩ := h.owned c
    unfold unlent
    rw [at' a c _ e]
    exact (h.ow a c).1
  have own' : ∀ a, 0 < cts a ks' → cts a ks + cto a r = 0 := fun a c => by
    by_cases c2 : 0 < cts a ks + cto a r
    · obtain ⟨xs, e⟩ := h.owned c2
      have h1 := at' a c2 _ e
      have h2 := (h'.ow a (by omega)).1
      rw [h1] at h2; cases h2
    · omega
  refine ⟨⟨ze, fun a o e n => ?_⟩, ⟨fun a o e => ?_, h'.gh, fun a => ?_, fun a c => ?_, ?_, fun i t e => ?_, h.len⟩⟩
  · have c : ¬ 0 < cts a ks + cto a r := fun c => by
      have := (h.ow a c).2
      rw [e] at this; cases this
    have h1 : lent Z H ks r a = none := by unfold lent; rw [if_neg c]; exact n
    have h2 := g.out a o e h1
    unfold unlent
    rw [h2]
  · unfold unlent at e
    cases q : Z' a with
    | none => rw [q] at e; cases e
    | some u =>
      rw [q] at e
      split at e
      · exact h'.zh a o (zz a o e)
      · exact h'.zh a o (by rw [q]; exact e)
  · rw [cts_append]
    by_cases c : 0 < cts a ks'
    · have := own' a c
      have := h'.one a
      omega
    · have := h.one a
      omega
  · rw [cts_append] at c
    by_cases c2 : 0 < cts a ks'
    · have h1 := h'.ow a (by omega)
      refine ⟨?_, h1.2⟩
      unfold unlent
      rw [h1.1]
    · exact ⟨nz a (by omega), (h.ow a (by omega)).2⟩
  · have k1 := rts_lf (unlent_t Z Z') ks' vs' lf h'.stk
    have k2 := rts_mono (H' := H') ze ks vs (fun b hb o e => h'.zh b o (at' b (by omega) o e)) h.stk
    exact rts_app k1 k2
  · obtain ⟨v, ev, rt⟩ := h.slot i t e
    exact ⟨v, ev, rt_mono ze t v (fun b hb o e2 => h'.zh b o (at' b (by have := cto_get b r i t e; omega) o e2)) rt⟩
end
section
variable {X : Cx} {e : Expr} {t : TE3} {tt : TT3}
/-- an expression over lent lists -/
def xBor (t : TE3) : TE3 := fun r Q => nvR r ∧ t (bor r) fun x _ => lft x = true ∧ Q x r
theorem p3_bor (h : P3 X e t) : P3 X e (xBor t) := by
  obtain ⟨te, he, sa⟩ := h.ex
  refine ⟨te, he, fun G Z H ks vs r s Q Q3 st ht k => sa G _ H [] [] (bor r) s _ _ (st.lend ht.1) ht.2 fun Z' H' x v r' g st' q => ?_⟩
  obtain ⟨g2, st2⟩ := st.unlend g st' (by simp [lfts, q.1])
  exact k _ H' x v r g2 st2 q.2
end
end L3
namespace L3
open PySem PySem.Spec PyProof.Rows L2
/-! ### enumerate over a list -/
def enumD (l : List PyData) : List PyData := List.zipWith (fun (i : Nat) x => PyData.tuple [.int (i : Nat), x]) (List.range l.length) l
theorem enumD_len (l : List PyData) : (enumD l).length = l.length := by
  unfold enumD
  rw [List.length_zipWith, List.length_range, Nat.min_self]
theorem enumD_get {l : List PyData} {i : Nat} {x : PyData} (h : (enumD l)[i]? = some x) : ∃ y, l[i]? = some y ∧ x = .tuple [.int (i : Nat), y] := by
  unfold enumD at h
  rw [List.getElem?_zipWith] at h
  cases e2 : l[i]? with
  | none => rw [e2] at h; cases q : (List.range l.length)[i]? <;> rw [q] at h <;> cases h
  | some y =>
    have hi : i < l.length := (List.getElem?_eq_some_iff.mp e2).1
    rw [e2, List.getElem?_range hi] at h
    exact ⟨y, rfl, (Option.some.inj h).symm⟩
section
variable {X : Cx} {a : Expr} {ta : TE3} {p pos : Pos}
def xEnum (t : TE3) : TI3 := fun r R => t r fun x r' => match x with
  | .d (.list l) => R (enumD l) r'
  | _ => False
theorem i3_enum {tpos : Pos} {elts : List Expr} {kk : Nat} (hg : Gl X "enumerate") (hm : X.mg "enumerate" = none) (ha : R3 X a ta) (hs : starEach [a] X.env = [(false, eval a X.env)] := by rfl) (hs2 : starEach [a] X.env = (false, eval a X.env) :: starEach [] X.env := by rfl) :
    I3 X (.Tuple elts kk tpos) (.Call (.Name "enumerate" p) [a] [] pos) (xEnum ta) := by
  obtain ⟨te, ee, se⟩ := ha.ex
  refine ⟨_, pi_enum hg hm (pa_cons ee pa_nil hs2) hs, fun G Z H ks vs r s R Q3 st ht k => se G Z H ks vs r s _ _ st ht fun Z1 H1 x v r1 g1 st1 pv q => ?_⟩
  split at q
  · rename_i l
    cases (show Dq X.K Z1 v (.list l) from pv) with
    | @lst a1 xs _ hs1 ha1 =>
      refine ⟨a1, xs, rfl, SqL.of (st1.zh _ _ hs1), k Z1 H1 _ _ r1 g1 st1 (fun Z' H i z zh => ⟨fun x hx => ?_, fun hi => ?_⟩) q⟩
      · obtain ⟨y, e1, rfl⟩ := enumD_get hx
        obtain ⟨vy, f1, d1⟩ := dpa_get ha1 e1
        refine ⟨⟨xs, vy, SqL.of (zh _ _ (z _ _ hs1)), f1⟩, fun v' H' ⟨T0, x', h1, h2, h3, h4⟩ => .inr ⟨T0, _, h2, h3, ?_⟩⟩
        have i1 := h4 xs (SqL.of (zh _ _ (z _ _ hs1)))
        rw [f1] at i1; cases i1
        rw [h1]
        have s : Sub Z' (upd Z' T0 (.tup [.int (i : Nat), vy])) := fun a o e => by rw [upd_ne (fun q => by rw [q] at e; have := zh _ _ e; rw [h2] at this; cases this)]; exact e
        exact .tup upd_same (.cons (.int _) (.cons (dp_mono s _ _ (dp_mono z _ _ d1)) .nil))
      · exact ⟨xs, SqL.of (zh _ _ (z _ _ hs1)), by rw [← dpa_len ha1]; rw [enumD_len] at hi; exact hi⟩
  · exact q.elim
end
end L3
namespace L3
open PySem PySem.Spec PyProof.Rows L2
/-! ### texts -/
theorem strs_dqa {K : PySem.W.Frag} {Z : Hp} : ∀ {ys : List Str} {xs : List V}, DqAll K Z xs (ys.map PyData.str) → xs = ys.map V.str
  | [], xs, h => by cases h; rfl
  | y :: ys, xs, h => by
    cases h with
    | cons h1 h2 =>
      cases h1
      rw [strs_dqa h2]
      rfl
theorem strs_rts {K : PySem.W.Frag} {Z H : Hp} : ∀ {ys : List Str} {xs : List V}, RTs K Z H (ys.map fun z => T.d (.str z)) xs → xs = ys.map V.str
  | [], xs, h => by cases h; rfl
  | y :: ys, xs, h => by
    cases h with
    | cons h1 h2 =>
      cases h1 with
      | d h1 =>
        cases h1
        rw [strs_rts h2]
        rfl
section
variable {X : Cx} {o e : Expr} {ta tb : TE3} {pos apos : Pos}
/-- sep.join(texts) -/
def asStrs (t : T) (k : List Str → Prop) : Prop := match t with
  | .d (.list l) => ∃ ys, l = ys.map PyData.str ∧ k ys
  | .own _ l => ∃ ys : List Str, (l = ys.map fun z => T.d (.str z)) ∧ k ys
  | _ => False
theorem asStrs_of {K : PySem.W.Frag} {G Z H : Hp} {ks : List T} {vs : List V} {r : Rho} {s : L2.St} {t : T} {v : V} {k : List Str → Prop} (h : asStrs t k) (st : S3 K G Z H ks vs r s) (p : Pv K Z r s t v) : ∃ a ys, v = .ref a ∧ SqL K H a (ys.map V.str) ∧ k ys := by
  unfold asStrs at h
  split at h
  · obtain ⟨ys, rfl, q⟩ := h
    cases (show Dq K Z v (.list _) from p) with
    | @lst a1 xs _ hs1 ha1 =>
      cases strs_dqa ha1
      exact ⟨a1, ys, rfl, SqL.of (st.zh _ _ hs1), q⟩
  · obtain ⟨ys, rfl, q⟩ := h
    cases p.now st with
    | own h1 h2 =>
      cases strs_rts h2
      exact ⟨_, ys, rfl, SqL.of h1, q⟩
  · exact h.elim
def xJoin (ta tb : TE3) : TE3 := fun r Q => ta r fun x r1 => asS x fun a => tb r1 fun y r2 => asStrs y fun ys => (ys.map (·.length)).sum + ys.length * a.length ≤ 16777216 ∧ Q (.d (.str (Txt.join a ys))) r2
theorem r3_join (ha : R3 X o ta) (hb : R3 X e tb) (hs : starEach [e] X.env = [(false, eval e X.env)] := by rfl) (hbase : attributeBase o "join" X.env (eval o X.env) = eval o X.env := by rfl) (hline : (apos.endLine == pos.line) = true := by rfl) :
    R3 X (.Call (.Attribute o "join" apos) [e] [] pos) (xJoin ta tb) := by
  obtain ⟨te, ee, se⟩ := ha.ex
  obtain ⟨tf, ef, sf⟩ := hb.ex
  refine ⟨_, pe_join ee ef hs hbase hline, fun G Z H ks vs r s Q Q3 st ht k => se G Z H ks vs r s _ _ st ht fun Z1 H1 x v r1 g1 st1 pv q => ?_⟩
  obtain ⟨a, rfl, q⟩ := asS_of q
  refine ⟨⟨a, pv.str⟩, sf G Z1 H1 ks vs r1 s _ _ st1 q fun Z2 H2 y u r2 g2 st2 pv2 q => ?_⟩
  obtain ⟨p, ys, rfl, hq, q1, q2⟩ := asStrs_of q st2 pv2
  exact ⟨a, p, ys, pv.str, rfl, .inl hq, q1, k Z2 H2 (.d (.str _)) _ r2 (g1.trans g2) st2 (Dq.str _) q2⟩
variable {a b : Expr}
theorem r3_glI {x : Str} {i : Int} (h : ∃ u, X.mg x = some u ∧ RelV (.int i) u) (hg : Gl X x) (hd : (x == ("__debug__" : Str)) = false := by decide) : R3 X (.Name x pos) (xC (.int i)) := by
  obtain ⟨u, hm, rv⟩ := h
  exact r3_globI hg hm rv hd
end
end L3
namespace L3
open PySem PySem.Spec PyProof.Rows L2
end L3
namespace L3
open PySem PySem.Spec PyProof.Rows L2
end L3
/-! zip of two sequences, each a list or a tuple -/
namespace L3
open PySem PySem.Spec PyProof.Rows L2 RZ
/-- a sequence: a tuple (true) or a list (false) -/
def SqX (K : PySem.W.Frag) (b : Bool) (H : Hp) (a : Addr) (xs : List V) : Prop := match b with | true => SqT K H a xs | false => SqL K H a xs
def itOb (b : Bool) (a : Addr) : Obj := match b with | true => { cls := .type "tuple_iterator", data := .fields #[.ref a, .int 0 0] } | false => { cls := .type "list_iterator", data := .fields #[.ref a, .int 0 0] }
def ItIs (b : Bool) (h : Heap) (it a : Addr) (i : Nat) : Prop := match b with | true => h.IsTupleIter it a i | false => h.IsListIter it a i
def SeqIs (b : Bool) (h : Heap) (a : Addr) (xs : Array Value) : Prop := match b with | true => h.IsTuple a xs | false => h.IsList a xs
theorem ItIs.fields {b : Bool} {h : Heap} {it a : Addr} {i : Nat} (x : ItIs b h it a i) : ∃ o vs, h.get? it = some o ∧ o.data = .fields vs := by
  cases b with
  | true => obtain ⟨o, e, _, d⟩ := x; exact ⟨o, _, e, d⟩
  | false => obtain ⟨o, e, _, d⟩ := x; exact ⟨o, _, e, d⟩
theorem ItIs.at {b : Bool} {h h' : Heap} {it a : Addr} {i : Nat} (x : ItIs b h it a i) (k : ∀ o, h.get? it = some o → h'.get? it = some o) : ItIs b h' it a i := by
  cases b with
  | true => exact Heap.IsTupleIter.at x k
  | false => exact Heap.IsListIter.at x k
theorem drawsX {prog : Program} {w : World} {A : Around} (hh : A.handled = none) (b : Bool) (it l : Addr) (hne : l ≠ it) (items : Array Value) :
    Draws prog w A it [it, l] items.size (fun i v => items[i]? = some v) (fun i h => ItIs b h it l i ∧ SeqIs b h l items) := by
  cases b with
  | true => exact Draws.tuple hh it l hne items
  | false => exact Draws.list hh it l hne items
theorem drawsAt {prog : Program} {w : World} {A : Around} (hh : A.handled = none) (b : Bool) (it l : Addr) (hne : l ≠ it) (items : Array Value) (i : Nat) :
    ∃ n P St, Draws prog w A it [it, l] n P St ∧ i ≤ n ∧ (items.size ≤ i → i = n) ∧ ∀ h, ItIs b h it l i → SeqIs b h l items → St i h := by
  by_cases hi : items.size ≤ i
  · refine ⟨i, fun _ _ => True, fun j h => j = i ∧ ItIs b h it l i ∧ SeqIs b h l items, ⟨fun j h st => ?_, fun j h h' st hk => ?_, fun j s Q E hj st _ => absurd st.1 (Nat.ne_of_lt hj), fun s Q E st hE => ?_⟩, Nat.le_refl _, fun _ => rfl, fun h h1 h2 => ⟨rfl, h1, h2⟩⟩
    · obtain ⟨o, _, e, _⟩ := st.2.1.fields
      exact ⟨o, e⟩
    · refine ⟨st.1, st.2.1.at fun o e => hk it (by simp) o e, ?_⟩
      cases b with
      | true => exact Heap.IsTuple.at st.2.2 fun o e => hk l (by simp) o e
      | false => exact Heap.IsList.at st.2.2 fun o e => hk l (by simp) o e
    · cases b with
      | true => exact wpAny_nextOf_tuple_end hh st.2.1 st.2.2 (by simpa using hi) hE
      | false => exact wpAny_nextOf_list_end hh st.2.1 st.2.2 (by simpa using hi) hE
  · exact ⟨_, _, _, drawsX hh b it l hne items, by omega, fun h => absurd h hi, fun h h1 h2 => ⟨h1, h2⟩⟩
theorem beginsX (b : Bool) (l : Addr) (items : Array Value) : Begins (.ref l) (itOb b l) fun h => SeqIs b h l items := by
  cases b with
  | true => exact begins_tuple l items
  | false => exact begins_list l items
theorem itOb_is {b : Bool} {h : Heap} {it a : Addr} (e : h.get? it = some (itOb b a)) : ItIs b h it a 0 := by
  cases b with
  | true => exact ⟨_, e, rfl, rfl⟩
  | false => exact ⟨_, e, rfl, rfl⟩
theorem seqX {X : Cx} {pins : List (Addr × Obj)} {σ : L2.St} {H : Hp} {s : Shared} {b : Bool} {a : Addr} {xs : List V} (I : Inv X pins σ H s) (h : SqX X.K b H a xs) :
    ∃ its, Vals xs its ∧ SeqIs b s.heap a its.toArray ∧ a < s.heap.objs.size := by
  cases b with
  | true =>
    obtain ⟨its, rv, p, _⟩ := I.tuple h
    have p' : s.heap.IsTuple a its.toArray := p
    exact ⟨its, rv, p', by obtain ⟨o, ho, _⟩ := p'; exact Heap.lt_size ho⟩
  | false =>
    obtain ⟨its, rv, p, _⟩ := I.list h
    exact ⟨its, rv, p.isList, p.lt⟩
theorem seqX_inj {X : Cx} {pins : List (Addr × Obj)} {σ : L2.St} {H : Hp} {s : Shared} {b : Bool} {a : Addr} {xs ys : List V} (I : Inv X pins σ H s) (h : SqX X.K b H a xs) (k : SqX X.K b H a ys) : xs = ys := by
  cases b with
  | true => exact I.tuple_inj h k
  | false => exact I.list_inj h k
def ItzX (K : PySem.W.Frag) (p q : Bool) (a b : Addr) : It :=
  ⟨fun i H => ∃ (xs ys : List V) (x y : V), SqX K p H a xs ∧ SqX K q H b ys ∧ xs[i]? = some x ∧ ys[i]? = some y,
    fun i H v H' => ∃ T x y, v = .ref T ∧ H T = none ∧ H' = upd H T (.tup [x, y]) ∧ (∀ xs, SqX K p H a xs → xs[i]? = some x) ∧ ∀ ys, SqX K q H b ys → ys[i]? = some y,
    fun i H => ∃ xs ys : List V, SqX K p H a xs ∧ SqX K q H b ys ∧ (xs.length ≤ i ∨ ys.length ≤ i)⟩
theorem turn_zipX {P : Program} {w : World} {K : PySem.W.Frag} {elts : List Expr} {kk : Nat} {tpos : Pos} {p q : Bool} {a b z TI TO i1 i2 : Addr} (D : ZipSep2 z TI TO i1 i2 [i1, a] [i2, b]) (ne1 : a ≠ i1) (ne2 : b ≠ i2) :
    Turn P w K (.Tuple elts kk tpos) (ItzX K p q a b) [z, TI, TO, i1, i2] z (fun i h => IsZip h z TI TO .none ∧ IsPair h TI (.ref i1) (.ref i2) ∧ (∃ x y, IsPair h TO x y) ∧ ItIs p h i1 a i ∧ ItIs q h i2 b i) where
  mem := by simp
  obj := fun i h st c hc => by
    obtain ⟨hz, hTI, ⟨x, y, hTO⟩, h1, h2⟩ := st
    obtain ⟨o1, v1, e1, d1⟩ := h1.fields
    obtain ⟨o2, v2, e2, d2⟩ := h2.fields
    have e' : c = z ∨ c = TI ∨ c = TO ∨ c = i1 ∨ c = i2 := by simpa using hc
    rcases e' with q | q | q | q | q
    · rw [q]; exact ⟨_, hz, fun v q => nomatch q⟩
    · rw [q]; exact ⟨_, hTI, fun v q => nomatch q⟩
    · rw [q]; exact ⟨_, hTO, fun v q => nomatch q⟩
    · rw [q]; exact ⟨o1, e1, fun v q => by rw [d1] at q; cases q⟩
    · rw [q]; exact ⟨o2, e2, fun v q => by rw [d2] at q; cases q⟩
  keep := fun i h h' st k => by
    obtain ⟨hz, hTI, ⟨x, y, hTO⟩, h1, h2⟩ := st
    exact ⟨k z (by simp) _ hz, k TI (by simp) _ hTI, ⟨x, y, k TO (by simp) _ hTO⟩, h1.at fun o q => k i1 (by simp) o q, h2.at fun o q => k i2 (by simp) o q⟩
  item := by
    intro X hP hw hK hc i pins s σ H E I hf st hg
    subst hP hw hK
    obtain ⟨hz, hTI, ⟨x0, y0, hTO⟩, h1, h2⟩ := st
    obtain ⟨xs, ys, x, y, hqx, hqy, hx, hy⟩ := hg
    obtain ⟨its, rv, p1, _⟩ := seqX I hqx
    obtain ⟨its2, rv2, p2, _⟩ := seqX I hqy
    obtain ⟨u, hu, ru⟩ := rv.get hx
    obtain ⟨u2, hu2, ru2⟩ := rv2.get hy
    have hzl : z < s.heap.objs.size := Heap.lt_size hz
    have s1 : i < its.toArray.size := by have := (List.getElem?_eq_some_iff.mp hu).1; simpa using this
    have s2 : i < its2.toArray.size := by have := (List.getElem?_eq_some_iff.mp hu2).1; simpa using this
    refine wpAny_pyNext_zipD2_item D (drawsX (A := X.A.in1) (I.ok.hd hc) p i1 a ne1 its.toArray) (drawsX (A := X.A.in1) (I.ok.hd hc) q i2 b ne2 its2.toArray) hz hTI hTO ⟨h1, p1⟩ ⟨h2, p2⟩ s1 s2 fun w1 w2 h' tk y1 y2 z' TO' h1' h2' hT hsz hk => ?_
    have e1 : w1 = u := by
      have : its.toArray[i]? = some w1 := y1
      rw [List.getElem?_toArray, hu] at this
      cases this; rfl
    have e2 : w2 = u2 := by
      have : its2.toArray[i]? = some w2 := y2
      rw [List.getElem?_toArray, hu2] at this
      cases this; rfl
    subst e1 e2
    refine ⟨_, rfl, wpAny_letOwnedTupleGo_zip (s := { s with heap := h', toks := tk }) z' fun h'' z'' sb => ?_⟩
    have hT2 : h''.get? s.heap.objs.size = some { cls := .type "tuple", data := .seq #[w1, w2] } := (sb.2 _ (Nat.ne_of_gt hzl)).trans hT
    have new : ObjOk X.prog X.w (upd H s.heap.objs.size (.tup [x, y])) h'' s.heap.objs.size (.tup [x, y]) :=
      ⟨by show 2 ≤ sizeLine; decide, [w1, w2], .cons ru (.cons ru2 .nil), ⟨_, hT2, rfl, _, rfl⟩⟩
    have I1 : Inv X pins σ (upd H s.heap.objs.size (.tup [x, y])) { s with heap := h'', toks := tk } :=
      I.turnedNew (t' := tk) (ch := [z, TI, TO, i1, i2]) (fun c o hb q => (sb.2 c (fun q' => hb (by simp [q']))).trans (hk c o (fun q' => hb (by simp [q'])) (fun q' => hb (by simp [q'])) (fun q' => hb (by simp [q'])) (fun q' => hb (by simp [q'])) q)) hf (Nat.le_refl _) new
    refine ⟨.ref s.heap.objs.size, _, I1, rfl, ⟨_, x, y, rfl, I.hok.fresh (Nat.le_refl _), rfl, fun l hl => by rw [seqX_inj I hl hqx]; exact hx, fun l hl => by rw [seqX_inj I hl hqy]; exact hy⟩, ⟨z'', ?_, ⟨w1, w2, ?_⟩, ?_, ?_⟩, fun c hcm => ?_⟩
    · exact (sb.2 _ D.TIz).trans (hk _ _ D.TIz D.TITO D.TIi1 D.TIi2 hTI)
    · exact (sb.2 _ D.TOz).trans TO'
    · exact h1'.1.at fun o q => (sb.2 _ D.zi1.symm).trans q
    · exact h2'.1.at fun o q => (sb.2 _ D.zi2.symm).trans q
    · have hlt : c < s.heap.objs.size := by
        have e' : c = z ∨ c = TI ∨ c = TO ∨ c = i1 ∨ c = i2 := by simpa using hcm
        rcases e' with q | q | q | q | q
        · rw [q]; exact hzl
        · rw [q]; exact Heap.lt_size hTI
        · rw [q]; exact Heap.lt_size hTO
        · rw [q]; obtain ⟨_, _, e1, _⟩ := h1.fields; exact Heap.lt_size e1
        · rw [q]; obtain ⟨_, _, e2, _⟩ := h2.fields; exact Heap.lt_size e2
      rw [upd_ne (Nat.ne_of_lt hlt)]
      exact (hf c hcm).1
  done := by
    intro X hP hw hK hc i pins s σ H E I hf st hg
    subst hP hw hK
    obtain ⟨hz, hTI, ⟨x0, y0, hTO⟩, h1, h2⟩ := st
    obtain ⟨xs, ys, hqx, hqy, hend⟩ := hg
    obtain ⟨its, rv, p1, _⟩ := seqX I hqx
    obtain ⟨its2, rv2, p2, _⟩ := seqX I hqy
    have l1 := rv.length
    have l2 := rv2.length
    have z1 : its.toArray.size = its.length := by simp
    have z2 : its2.toArray.size = its2.length := by simp
    obtain ⟨n1, P1, St1, D1, a1, b1, c1⟩ := drawsAt (prog := X.prog) (w := X.w) (A := X.A.in1) (I.ok.hd hc) p i1 a ne1 its.toArray i
    obtain ⟨n2, P2, St2, D2, a2, b2, c2⟩ := drawsAt (prog := X.prog) (w := X.w) (A := X.A.in1) (I.ok.hd hc) q i2 b ne2 its2.toArray i
    exact wpAny_pyNext_zipD2_end D D1 D2 hz hTI hTO (c1 _ h1 p1) (c2 _ h2 p2) a1 a2 (hend.imp (fun q => b1 (by omega)) fun q => b2 (by omega)) fun h' tk hk => ⟨rfl, I.turnedL (t' := tk) (ch := [z, TI, TO, i1, i2]) (fun c o hb q =>
      hk c o (fun q' => hb (by simp [q'])) (fun q' => hb (by simp [q'])) (fun q' => hb (by simp [q'])) (fun q' => hb (by simp [q'])) q) hf⟩
  self := fun A i s Q E st h => wpAny_pyIter_zip st.1 h
def iZipX (K : PySem.W.Frag) (ta : TA) : TI := fun σ H R => ta σ H fun vs H1 => ∃ p q a b xs ys, vs = [.ref a, .ref b] ∧ SqX K p H1 a xs ∧ SqX K q H1 b ys ∧ R (ItzX K p q a b) H1
theorem pi_zipX {X : Cx} {e e2 : Expr} {ta : TA} {p pos tpos : Pos} {elts : List Expr} {kk : Nat} (hg : Gl X "zip") (hm : X.mg "zip" = none) (ha : PA X [e, e2] ta)
    (hs : starEach [e, e2] X.env = (false, eval e X.env) :: starEach [e2] X.env := by rfl) (hpl : (backTo pos (starEach [e2] X.env)).any (·.1) = false := by rfl) :
    PI X (.Tuple elts kk tpos) (.Call (.Name "zip" p) [e, e2] [] pos) (iZipX X.K ta) := by
  refine ⟨fun pins s σ H R I h => ?_⟩
  refine Call_ (ld_blt I hg hm PyProof.Rows.boot_zip (PyProof.Rows.callWith_type1 (thn (ha.run pos pins s σ H _ I h) fun us s1 ⟨vs, H1, I1, r1, q1⟩ => ?_) hs hpl))
  obtain ⟨p, q, a, b, xs, ys, ex, hqx, hqy, hq⟩ := q1
  subst ex
  cases r1 with
  | cons r rr =>
    cases rr with
    | cons r' rr =>
      cases rr
      cases r
      cases r'
      have fresh5 : ∀ c, c ∈ [s1.heap.objs.size + 4, s1.heap.objs.size + 2, s1.heap.objs.size + 3, s1.heap.objs.size, s1.heap.objs.size + 1] → FpOk X pins H1 c := fun c hcm => by
        have e' : c = s1.heap.objs.size + 4 ∨ c = s1.heap.objs.size + 2 ∨ c = s1.heap.objs.size + 3 ∨ c = s1.heap.objs.size ∨ c = s1.heap.objs.size + 1 := by simpa using hcm
        have hle : s1.heap.objs.size ≤ c := by
          rcases e' with z | z | z | z | z
          · rw [z]; exact Nat.le_add_right _ _
          · rw [z]; exact Nat.le_add_right _ _
          · rw [z]; exact Nat.le_add_right _ _
          · rw [z]; exact Nat.le_refl _
          · rw [z]; exact Nat.le_add_right _ _
        exact I1.fpOk hle (I1.hok.fresh hle)
      obtain ⟨its, rv, p1, lt1⟩ := seqX I1 hqx
      obtain ⟨its2, rv2, p2, lt2⟩ := seqX I1 hqy
      refine zip_begins2 (beginsX p a its.toArray) (beginsX q b its2.toArray) p1 p2 fun h' hz hTI hTO h1 h2 hsz hk => wpAny_pyIter_zip hz ?_
      have I2 : Inv X pins σ H1 { s1 with heap := h' } := I1.kept (t' := s1.toks) hk
      have lt1' : a < s1.heap.objs.size := lt1
      have lt2' : b < s1.heap.objs.size := lt2
      have n (m k : Nat) (h : m ≠ k := by omega) : s1.heap.objs.size + m ≠ s1.heap.objs.size + k := by omega
      have na (m : Nat) : a ≠ s1.heap.objs.size + m := fun z => by rw [z] at lt1'; exact absurd lt1' (Nat.not_lt.mpr (Nat.le_add_right _ _))
      have nb (m : Nat) : b ≠ s1.heap.objs.size + m := fun z => by rw [z] at lt2'; exact absurd lt2' (Nat.not_lt.mpr (Nat.le_add_right _ _))
      have sep : ZipSep2 (s1.heap.objs.size + 4) (s1.heap.objs.size + 2) (s1.heap.objs.size + 3) s1.heap.objs.size (s1.heap.objs.size + 1) [s1.heap.objs.size, a] [s1.heap.objs.size + 1, b] := {
        TIz := n 2 4
        TOz := n 3 4
        TITO := n 2 3
        TIi1 := n 2 0
        mem1 := by simp
        zf1 := fun h => by
          rcases List.mem_cons.mp h with h | h
          · exact n 4 0 (by omega) h
          · exact na 4 (List.mem_singleton.mp h).symm
        Tf1 := fun h => by
          rcases List.mem_cons.mp h with h | h
          · exact n 3 0 (by omega) h
          · exact na 3 (List.mem_singleton.mp h).symm
        TIi2 := n 2 1
        mem2 := by simp
        zf2 := fun h => by
          rcases List.mem_cons.mp h with h | h
          · exact n 4 1 (by omega) h
          · exact nb 4 (List.mem_singleton.mp h).symm
        Tf2 := fun h => by
          rcases List.mem_cons.mp h with h | h
          · exact n 3 1 (by omega) h
          · exact nb 3 (List.mem_singleton.mp h).symm
        sep1_2 := fun h => by
          rcases List.mem_cons.mp h with h | h
          · exact n 0 1 (by omega) h
          · exact nb 0 (List.mem_singleton.mp h).symm
        sep2_1 := fun h => by
          rcases List.mem_cons.mp h with h | h
          · exact n 1 0 (by omega) h
          · exact na 1 (List.mem_singleton.mp h).symm }
      exact ⟨s1.heap.objs.size + 4, [s1.heap.objs.size + 4, s1.heap.objs.size + 2, s1.heap.objs.size + 3, s1.heap.objs.size, s1.heap.objs.size + 1], _, _, H1, rfl, I2, turn_zipX sep (na 0) (nb 1), ⟨hz, hTI, ⟨_, _, hTO⟩, itOb_is h1, itOb_is h2⟩, fresh5, hq⟩
section
variable {X : Cx} {e a b : Expr} {ta tb : TE3} {p pos : Pos}
/-- what a sequence of data holds -/
def seqOf : T → Option (Bool × List PyData)
  | .d (.list l) => some (false, l)
  | .d (.tuple l) => some (true, l)
  | _ => none
def xZipX (ta tb : TE3) : TI3 := fun r R => ta r fun x r1 => tb r1 fun y r2 => ∃ l m, (seqOf x).map (·.2) = some l ∧ (seqOf y).map (·.2) = some m ∧ R (zipD l m) r2
theorem seqOf_sq {K : PySem.W.Frag} {Z : Hp} {r : Rho} {s : L2.St} {t : T} {v : V} {b : Bool} {l : List PyData} (h : seqOf t = some (b, l)) (p : Pv K Z r s t v) :
    ∃ a xs, v = .ref a ∧ (∀ Z', Sub Z Z' → SqX K b Z' a xs) ∧ DqAll K Z xs l := by
  unfold seqOf at h
  split at h
  · cases h
    have dx : Dq K Z v (.list l) := p
    cases dx with
    | lst hs ha => exact ⟨_, _, rfl, fun Z' z => SqL.of (z _ _ hs), ha⟩
  · cases h
    have dx : Dq K Z v (.tuple l) := p
    cases dx with
    | tup hs ha => exact ⟨_, _, rfl, fun Z' z => SqT.of (z _ _ hs), ha⟩
  · cases h
theorem i3_zipX {tpos : Pos} {elts : List Expr} {kk : Nat} (hg : Gl X "zip") (hm : X.mg "zip" = none) (ha : R3 X a ta) (hb : R3 X b tb) (hs : starEach [a, b] X.env = (false, eval a X.env) :: starEach [b] X.env := by rfl) (hs2 : starEach [b] X.env = (false, eval b X.env) :: starEach [] X.env := by rfl)
    (hpl : (backTo pos (starEach [b] X.env)).any (·.1) = false := by rfl) : I3 X (.Tuple elts kk tpos) (.Call (.Name "zip" p) [a, b] [] pos) (xZipX ta tb) := by
  obtain ⟨te, ee, se⟩ := ha.ex
  obtain ⟨tf, ef, sf⟩ := hb.ex
  refine ⟨_, pi_zipX hg hm (pa_cons ee (pa_cons ef pa_nil hs2) hs) hs hpl, fun G Z H ks vs r s R Q3 st ht k => se G Z H ks vs r s _ _ st ht fun Z1 H1 x v r1 g1 st1 pv qa => sf G Z1 H1 ks vs r1 s _ _ st1 qa fun Z2 H2 y u r2 g2 st2 pv2 q => ?_⟩
  have zl : ∀ (l m : List PyData) (i : Nat), (zipD l m).length ≤ i → l.length ≤ i ∨ m.length ≤ i := fun l m i h => by
    unfold zipD at h; rw [List.length_zipWith] at h; omega
  have zg : ∀ (l m : List PyData) (i : Nat) (x : PyData), (zipD l m)[i]? = some x → ∃ y z, l[i]? = some y ∧ m[i]? = some z ∧ x = .tuple [y, z] := fun l m i x h => by
    unfold zipD at h
    rw [List.getElem?_zipWith] at h
    cases e1 : l[i]? with
    | none => rw [e1] at h; cases h
    | some y =>
      cases e2 : m[i]? with
      | none => rw [e1, e2] at h; cases h
      | some z => rw [e1, e2] at h; exact ⟨y, z, rfl, rfl, (Option.some.inj h).symm⟩
  obtain ⟨l, m, e1, e2, q⟩ := q
  cases sx : seqOf x with
  | none => rw [sx] at e1; cases e1
  | some bl =>
    cases sy : seqOf y with
    | none => rw [sy] at e2; cases e2
    | some bm =>
      obtain ⟨b1, l'⟩ := bl
      obtain ⟨b2, m'⟩ := bm
      rw [sx] at e1; cases e1
      rw [sy] at e2; cases e2
      obtain ⟨a1, xs, rfl, hs1, ha1⟩ := seqOf_sq sx (pv.keep g2.sub)
      obtain ⟨a2, ys, rfl, hs2', ha2⟩ := seqOf_sq sy pv2
      refine ⟨b1, b2, a1, a2, xs, ys, rfl, hs1 _ st2.zh, hs2' _ st2.zh, k Z2 H2 _ _ r2 (g1.trans g2) st2 (fun Z' H i z zh => ⟨fun x hx => ?_, fun hi => ?_⟩) q⟩
      · obtain ⟨y, w, e1, e2, rfl⟩ := zg l' m' i x hx
        obtain ⟨vy, f1, d1⟩ := dpa_get ha1 e1
        obtain ⟨vw, f2, d2⟩ := dpa_get ha2 e2
        refine ⟨⟨xs, ys, vy, vw, hs1 _ (z.trans zh), hs2' _ (z.trans zh), f1, f2⟩, fun v' H' ⟨T0, x', y', h1, h2, h3, h4, h5⟩ => .inr ⟨T0, _, h2, h3, ?_⟩⟩
        have i1 := h4 xs (hs1 _ (z.trans zh))
        have i2 := h5 ys (hs2' _ (z.trans zh))
        rw [f1] at i1; cases i1
        rw [f2] at i2; cases i2
        rw [h1]
        have s : Sub Z' (upd Z' T0 (.tup [vy, vw])) := fun a o e => by rw [upd_ne (fun q => by rw [q] at e; have := zh _ _ e; rw [h2] at this; cases this)]; exact e
        exact .tup upd_same (.cons (dp_mono (z.trans s) _ _ d1) (.cons (dp_mono (z.trans s) _ _ d2) .nil))
      · exact ⟨xs, ys, hs1 _ (z.trans zh), hs2' _ (z.trans zh), by rw [← dpa_len ha1, ← dpa_len ha2]; exact zl l' m' i hi⟩
end
end L3
/-! t[::2] of a tuple of three -/
namespace L3
open PySem PySem.Spec PyProof.Rows L2
end L3
set_option maxHeartbeats 1000000
/-! exceptions: raised, let out, caught and kept as values -/
namespace L3
open PySem PySem.Spec PyProof.Rows L2
/-! ### a def that may raise -/
section
variable {P : Program} {w : World} {K : PySem.W.Frag} {mg : Str → Option Value} {base : Heap}
theorem ok3X {x qual : Str} {st : Stmt} {f : Addr} {fd : FuncData} {N ps : List Str} {k : Nat} {sp : Sp3} (F : Fun K x qual st f fd) (S : FnScope N ps (defScope st)) (len : ∀ ts Q E, sp ts Q E → ts.length = ps.length)
    (hbody : ∀ (cdv : Value) (A : Around) (outer : List Env) (s : Shared) (H : Hp) (E : XK), Room k (A.deeper (envOfC qual (defScope st) s.heap.objs.size f cdv)) →
      ∃ t, B3 (cxOf (L2.CX P w) P w K mg base N qual (defScope st) f cdv A outer s H E) (defBody st) t ∧ ∀ ts Q3 E3, sp ts Q3 E3 → t { nx := fun r => finOk ts r ∧ Q3 (.d .none) (finF ts r), rt := fun x r => finOk ts r ∧ Q3 x (finF ts r), ex := fun C r => finOk ts r ∧ E3 C (finF ts r) } (start3 N ts)) :
    FnOk P w K mg base (L2.CX P w) (k + 1) f fd ps (lift K sp) := by
  refine F.okX S (fun vs H Q E h => ?_) (fun cdv A outer s H vs Q E hr h => ?_)
  · obtain ⟨G, Z, ts, Q3, E3, st, hsp, _⟩ := h
    rw [← rts_len st.stk]
    exact len _ _ _ hsp
  · obtain ⟨G, Z, ts, Q3, E3, st, hsp, hq, hx⟩ := h
    obtain ⟨t, hB, ht⟩ := hbody cdv A outer s H E hr
    obtain ⟨te, eb, sb⟩ := hB.ex _ (takes_of rfl rfl rfl rfl)
    have ret : ∀ Z' H' r' s' x v, Gr G Z Z' → S3 K G Z' H' [x] [v] r' s' → (finOk ts r' ∧ Q3 x (finF ts r')) → Q v H' := fun Z' H' r' s' x v g st' q => by
      refine hq Z' H' x v (finF ts r') g ⟨st'.zh, st'.gh, fun a => ?_, fun a c => st'.ow a ?_, .cons st'.top (rts_fin g.sub ts vs r' s' st.stk q.1 st'.len st'.slot), fun i t e => by simp at e, rfl⟩ q.2
      · have h1 := st'.one a
        have h2 := cto_fin a ts r' q.1
        simp only [cts, cto] at *
        omega
      · have h2 := cto_fin a ts r' q.1
        simp only [cts, cto] at *
        omega
    have out : ∀ Z' H' r' s' C, Gr G Z Z' → S3 K G Z' H' [] [] r' s' → (finOk ts r' ∧ E3 C (finF ts r')) → E (.ref C) none H' := fun Z' H' r' s' C g st' q => by
      refine hx Z' H' C (finF ts r') g ⟨st'.zh, st'.gh, fun a => ?_, fun a c => st'.ow a ?_, rts_fin g.sub ts vs r' s' st.stk q.1 st'.len st'.slot, fun i t e => by simp at e, rfl⟩ q.2
      · have h1 := st'.one a
        have h2 := cto_fin a ts r' q.1
        simp only [cts, cto] at *
        omega
      · have h2 := cto_fin a ts r' q.1
        simp only [cts, cto] at *
        omega
    exact ⟨te, eb, sb G Z H _ _ _ _ (start_st st) (ht ts Q3 E3 hsp) ⟨fun Z' H' r' s' g st' q => ret Z' H' r' s' _ _ g (st'.pushD .non) q, fun Z' H' r' s' x v g st' q => ret Z' H' r' s' x v g st' q, fun _ _ _ _ _ _ q => q.elim, fun _ _ _ _ _ _ q => q.elim, fun Z' H' C r' s' g st' q => out Z' H' r' s' C g st' q⟩⟩
/-- a def of the module that may raise, by its name -/
def CalX (P : Program) (w : World) (K : PySem.W.Frag) (mg : Str → Option Value) (base : Heap) (x : Str) (k : Nat) (ps : List Str) (sp : Sp3) : Prop :=
  ∃ f fd, FnOk P w K mg base (L2.CX P w) k f fd ps (lift K sp) ∧ mg x = some (.ref f) ∧ PySem.W.keepIn K (.ref f) = true ∧ Binds K fd ps []
theorem CalX.mono {x : Str} {j k : Nat} {ps : List Str} {sp : Sp3} (c : CalX P w K mg base x j ps sp) (h : j ≤ k) : CalX P w K mg base x k ps sp := by
  obtain ⟨f, fd, F, hm, hk, hb⟩ := c
  exact ⟨f, fd, ⟨F.len, fun A outer s H args us vs Q E hr => F.run A outer s H args us vs Q E (hr.mono h)⟩, hm, hk, hb⟩
end
section
variable {X : Cx} {es : List Expr} {e : Expr} {u : TC3} {pos p : Pos} {sp : Sp3} {k j : Nat} {ps : List Str} {x : Str} {t ta : TE3}
/-- .. called where it raises nothing -/
theorem p3_calN {sp' : Sp3} (c : CalX X.prog X.w X.K X.mg X.base x k ps sp) (hw : ∀ ts Q, sp' ts Q xNoE → sp ts Q xNoE) (hr : Room k X.A) (hg : Gl X x) (hu : C3 X (e :: es) u)
    (hdb : (x == ("__debug__" : Str)) = false := by decide) (he : starEach (e :: es) X.env = (false, eval e X.env) :: starEach es X.env := by rfl) (hpl : (backTo pos (starEach es X.env)).any (·.1) = false := by rfl) :
    P3 X (.Call (.Name x p) (e :: es) [] pos) (xCall sp' xNoE u) := by
  obtain ⟨f, fd, F, hm, hk, hb⟩ := c
  obtain ⟨te, ea, sa⟩ := hu.ex
  refine ⟨_, pe_call F hr hg hm hk hb .nil passL ea hdb he hpl, fun G Z H ks vs r s Q Q3 st ht kk => sa G Z H ks vs r s _ _ st ht fun Z1 H1 as us r1 g1 st1 hp q => ?_⟩
  rw [List.append_nil]
  refine call_run (E3 := xNoE) st1 hp ?_ (fun Z' H' x v r' g => kk Z' H' x v r' (g1.trans g)) fun _ _ _ _ _ _ _ _ z => z.elim
  split at q
  · exact ⟨q.1, hw _ _ q.2⟩
  · exact q.elim
/-! ### .. where it may raise -/
abbrev TX3 := Rho → (T → Rho → Prop) → (Addr → Rho → Prop) → Prop
structure P3W (X : Cx) (e : Expr) (t : TX3) : Prop where
  ex : ∀ W : WX, Takes X W → ∃ te : TE, PE X e te ∧ ∀ (G Z H : Hp) (ks : List T) (vs : List V) (r : Rho) (s : L2.St) (Q : VK) (Q3 : T → Rho → Prop) (E3 : Addr → Rho → Prop), S3 X.K G Z H ks vs r s → t r Q3 E3 →
    (∀ Z' H' x v r', Gr G Z Z' → S3 X.K G Z' H' (x :: ks) (v :: vs) r' s → Q3 x r' → Q v H') →
    (∀ Z' H' C r', Gr G Z Z' → S3 X.K G Z' H' ks vs r' s → E3 C r' → W (.ref C) none s H') → te s H Q
def xCallX (sp : Sp3) (u : TC3) : TX3 := fun r Q E => u r fun as r1 => match looks r1 as with
  | some ts => (ios as).Nodup ∧ sp ts (fun x ts' => Q x (puts r1 as ts')) (fun C ts' => E C (puts r1 as ts'))
  | none => False
theorem callx_run {G Z H : Hp} {ks : List T} {vs : List V} {r : Rho} {s : L2.St} {as : List Arg} {us : List V} {Q : VK} {E : XK} {Q3 : T → Rho → Prop} {E3 : Addr → Rho → Prop} (st : S3 X.K G Z H ks vs r s) (hp : Paired (ArgOk X.K Z s) as us)
    (h : match looks r as with | some ts => (ios as).Nodup ∧ sp ts (fun x ts' => Q3 x (puts r as ts')) (fun C ts' => E3 C (puts r as ts')) | none => False)
    (kq : ∀ Z' H' x v r', Gr G Z Z' → S3 X.K G Z' H' (x :: ks) (v :: vs) r' s → Q3 x r' → Q v H')
    (ke : ∀ Z' H' C r', Gr G Z Z' → S3 X.K G Z' H' ks vs r' s → E3 C r' → E (.ref C) none H') : lift X.K sp us H Q E := by
  refine call_run (E3 := fun C ts' => E3 C (puts r as ts')) st hp h kq fun Z' H' C ts' r' g st' e q => ?_
  subst e
  exact ke Z' H' C _ g st' q
theorem p3w_cal (c : CalX X.prog X.w X.K X.mg X.base x k ps sp) (hr : Room k X.A) (hg : Gl X x) (hu : C3 X (e :: es) u)
    (hdb : (x == ("__debug__" : Str)) = false := by decide) (he : starEach (e :: es) X.env = (false, eval e X.env) :: starEach es X.env := by rfl) (hpl : (backTo pos (starEach es X.env)).any (·.1) = false := by rfl) :
    P3W X (.Call (.Name x p) (e :: es) [] pos) (xCallX sp u) := by
  refine ⟨fun W tk => ?_⟩
  obtain ⟨f, fd, F, hm, hk, hb⟩ := c
  obtain ⟨te, ea, sa⟩ := hu.ex
  refine ⟨_, pe_callS F hr hg hm hk hb (fun σ => passAt tk σ) ea hdb he hpl, fun G Z H ks vs r s Q Q3 E3 st ht kk ke => sa G Z H ks vs r s _ _ st ht fun Z1 H1 as us r1 g1 st1 hp q => ?_⟩
  exact callx_run st1 hp q (fun Z' H' x v r' g => kk Z' H' x v r' (g1.trans g)) fun Z' H' C r' g => ke Z' H' C r' (g1.trans g)
end
section
variable {X : Cx} {st : Stmt} {rest body : List Stmt} {t u : TS3} {e : Expr} {te : TX3} {tt : TT3} {pos : Pos}
def xDropX (te : TX3) : TS3 := fun D r => te r (fun _ r' => D.nx r') D.ex
theorem m3_exprX (h : P3W X e te) (hs : swapsWith e none pos.line X.env = pure false := by rfl) : M3 X (.Expr e pos) (xDropX te) := by
  refine ⟨fun W tk => ?_⟩
  obtain ⟨tea, ea, sa⟩ := h.ex W tk
  exact ⟨_, ps_expr ea hs, fun G Z H r s D D3 st ht im => sa G Z H [] [] r s _ _ _ st ht (fun Z' H' x v r' g st' q => im.nx Z' H' r' s g st'.pop q) fun Z' H' C r' g st' q => im.ex Z' H' C r' s g st' q⟩
def xRetX (te : TX3) : TS3 := fun D r => te r D.rt D.ex
theorem m3_retX (h : P3W X e te) : M3 X (.Return (some e) pos) (xRetX te) := by
  refine ⟨fun W tk => ?_⟩
  obtain ⟨tea, ea, sa⟩ := h.ex W tk
  exact ⟨_, ps_ret ea, fun G Z H r s D D3 st ht im => sa G Z H [] [] r s _ _ _ st ht (fun Z' H' x v r' g st' q => im.rt Z' H' r' s x v g st' q) fun Z' H' C r' g st' q => im.ex Z' H' C r' s g st' q⟩
def xAsgX (t : TX3) (g : TG3) : TS3 := fun D r => t r (fun x r' => g x r' D.nx) D.ex
theorem m3_asgX {tg : Expr} {js : List Nat} {g : TG3} (he : P3W X e te) (hg : G3 X tg js g) (hs : swapsWithSole [tg] e pos.line X.env = pure false := by rfl) (hw : swappedStores [tg] e X.env = pure none := by rfl)
    (h1 : (assignEach [tg] X.env).map (·.2) = [assign tg X.env] := by rfl) : M3 X (.Assign [tg] e pos) (xAsgX te g) := by
  refine ⟨fun W tk => ?_⟩
  obtain ⟨tee, ee, se⟩ := he.ex W tk
  obtain ⟨tg', eg, sg⟩ := hg.ex
  exact ⟨_, ps_asg ee eg hs hw h1, fun G Z H r s D D3 st ht im => se G Z H [] [] r s _ _ _ st ht (fun Z1 H1 x v r1 g1 st1 q => sg G Z1 H1 [] [] r1 s x v _ _ st1 q fun Z2 H2 r2 s2 g2 st2 _ _ q2 => im.nx Z2 H2 r2 s2 (g1.trans g2) st2 q2) fun Z' H' C r' g st' q => im.ex Z' H' C r' s g st' q⟩
/-- raise X('m') -/
def xRaise (C : Addr) : TS3 := fun D r => D.ex C r
theorem m3_raise {C : Addr} (hc : X.calm = true) (he : PMk X e fun _ H Q => Q (.ref C) none H) : M3 X (.Raise (some e) none pos) (xRaise C) :=
  ⟨fun W tk => ⟨_, ps_raise hc tk he, fun G Z H r s D D3 st ht im => im.ex Z H C r s (Gr.refl _ _) st ht⟩⟩
/-- a block that raises nothing, in one that may -/
def xNox (t : TS3) : TS3 := fun D r => t { D with ex := fun _ _ => False } r
theorem b3_nox {sts : List Stmt} (h : B3 X.nox sts t) : B3 X sts (xNox t) := by
  refine ⟨fun W tk => ?_⟩
  obtain ⟨te, ea, sa⟩ := h.ex _ takes0
  exact ⟨te, ea.nox, fun G Z H r s D D3 st ht im => sa G Z H r s D _ st ht ⟨im.nx, im.rt, im.bk, im.ct, fun _ _ _ _ _ _ _ q => q.elim⟩⟩
end
end L3
set_option maxHeartbeats 1000000
/-! try: .. except X as e: .. : the caught one is kept as a value -/
namespace L3
open PySem PySem.Spec PyProof.Rows L2
/-- an exception of the class C at a, tracked -/
def ExV (C a : Addr) : HO := .ext fun h => ∃ (oe : Obj) (vs : Array Value), h.get? a = some oe ∧ Zc (.ref C) none oe ∧ oe.data = .fields vs
theorem exV_is (C a : Addr) : IsExc C a (ExV C a) := ⟨_, rfl, fun _ h => h⟩
theorem exV_ok {P : Program} {w : World} {H : Hp} {h : Heap} {C a : Addr} {oe : Obj} {vs : Array Value} (e : h.get? a = some oe) (z : Zc (.ref C) none oe) (d : oe.data = .fields vs) : ObjOk P w H h a (ExV C a) :=
  ⟨⟨oe, vs, e, z, d⟩, ⟨oe, e⟩, fun _ _ ⟨o, v, q, r⟩ k => ⟨o, v, k o q, r⟩⟩
section
variable {X : Cx} {pins : List (Addr × Obj)} {σ : L2.St} {H : Hp} {s : Shared}
/-- an object that is there and was not at the entry is tracked from now on -/
theorem adopt {a : Addr} {o : HO} (I : Inv X pins σ H s) (na : H a = none) (n0 : X.s_0.heap.get? a = none) (nL : a ≠ X.env.locals) (nC : ∀ v, ¬ s.heap.IsCell a v) (np : ∀ p ∈ X.pn ++ pins, p.1 ≠ a) (new : ObjOk X.prog X.w (upd H a o) s.heap a o) : Inv X pins σ (upd H a o) s := by
  have neS : ∀ b u, H b = some u → b ≠ a := fun b u e z => by rw [z, na] at e; cases e
  have ne0 : ∀ b u, X.s_0.heap.get? b = some u → b ≠ a := fun b u e z => by rw [z, n0] at e; cases e
  refine ⟨I.ok, I.os, I.bare, ⟨I.base.keep, I.base.slot, fun b u e n hx => ?_, I.base.there, fun b xs e => ?_, fun b u xs e => ?_, fun b ps e => ?_⟩, I.loc, I.cell, ?_, fun x c e => ?_, fun p hp => ?_, fun b u e => ?_, I.len⟩
  · rw [upd_ne (ne0 b u e)]; exact I.base.free b u e n hx
  · have := I.base.tups b xs e; rw [upd_ne (neS b _ this)]; exact this
  · have := I.base.frzs b u xs e; rw [upd_ne (neS b _ this)]; exact this
  · obtain ⟨m, z⟩ := I.base.tbls b ps e
    exact ⟨m, by rw [upd_ne (neS b _ z)]; exact z⟩
  · rw [upd_ne (Ne.symm nL)]; exact I.free
  · obtain ⟨v, hv⟩ := I.cell x c e
    rw [upd_ne (fun z => nC v (by rw [← z]; exact hv))]
    exact I.freeC x c e
  · obtain ⟨e, n, ne, nf, d⟩ := I.pin p hp
    exact ⟨e, by rw [upd_ne (np p hp)]; exact n, ne, nf, d⟩
  · by_cases hb : b = a
    · subst hb
      rw [upd_same] at e
      cases e
      exact new
    · rw [upd_ne hb] at e
      exact (I.hok b u e).stay (fun c v _ q => q) (fun c q => by rw [upd_ne (ne_of_none q na)]; exact q) fun c xs q => by rw [upd_ne (ne_of_none q na)]; exact q
theorem toSuite (I : Inv X pins σ H s) (a : Addr) : Inv (X.suite a (X.pn ++ pins)) [] σ H s :=
  ⟨I.ok.suite _ _, I.os, I.bare, I.base, I.loc, I.cell, I.free, I.freeC, fun p hp => I.pin p (by rw [List.append_nil] at hp; exact hp), I.hok, I.len⟩
theorem ofSuite {a : Addr} {pn' : List (Addr × Obj)} (I : Inv (X.suite a (X.pn ++ pins)) pn' σ H s) (ok : X.Ok) : Inv X pins σ H s :=
  ⟨ok, I.os, I.bare, I.base, I.loc, I.cell, I.free, I.freeC, fun p hp => I.pin p (List.mem_append_left _ hp), I.hok, I.len⟩
end
/-- what the clause wishes of an exception of the body, always caught by it: slot i is its name's -/
def wAsV (K : PySem.W.Frag) (c : Value) (i : Nat) (ts : TS) (D : Ends) : WX := fun cls d σ H =>
  d = none ∧ ∃ C, cls = .ref C ∧ PySem.W.exmOne K cls c = some true ∧ ∀ a, H a = none → ts { nx := fun σ' H' => D.nx (σ'.set i none) H', rt := D.rt, bk := fun σ' H' => D.bk (σ'.set i none) H', ct := fun σ' H' => D.ct (σ'.set i none) H' } (σ.set i (some (.ref a))) (upd H a (ExV C a))
section
variable {X : Cx} {x n : Str} {c : Value} {i : Nat} {body suite : List Stmt} {b₀ : Stmt} {np pos pos' : Pos} {tb : WX → TS} {ts : TS}
theorem ps_try_asV (hs : X.stack = X.env :: X.outer) (hf : X.env.frame = some X.env.locals) (hex : X.ex = []) (hN : X.N.Nodup) (hi : X.N[i]? = some n) (hln : X.env.kindOf n = some .local) (hc : Names X x c)
    (hb : ∀ (W : WX) (pn : List (Addr × Obj)) (xe : Value → Shared → Prop), Takes (X.tr pn xe) W → PassesOwn (model X.prog X.w) X.A X.env xe → PSs (X.tr pn xe) body (tb W))
    (hsu : ∀ (a : Addr) (pn : List (Addr × Obj)), PSs (X.suite a pn) (b₀ :: suite) ts) :
    PS X (.Try body [.ExceptHandler (some (.Name x np)) (some n) (b₀ :: suite) pos'] [] [] pos) (fun D σ H => tb (wAsV X.K c i ts D) D σ H) := by
  refine ⟨fun pins s σ H D I h => ?_⟩
  have ok := I.ok
  have hfr : X.A.frames = some (X.env :: X.outer) := by rw [ok.frames, hs]
  have hloc : Loc X.env.scope n := .inl hln
  refine wpAny_Try_except ?_
  refine wpAny_mono ((hb (wAsV X.K c i ts D) (X.pn ++ pins) (fun e s₁ => wpAny (model X.prog X.w) X.A (noteFrame e X.env) (fun _ s₂ => wpAny (model X.prog X.w) X.A (setFlight e none) (fun _ s₃ =>
    wpAny (model X.prog X.w) X.A (handleBy e X.env [.ExceptHandler (some (.Name x np)) (some n) (b₀ :: suite) pos']) (SP X pins D) X.xe s₃) X.xe s₂) X.xe s₁) (fun u s' xx => ?_) PassesOwn.looking).run [] s σ H D (I.toTry _) h) (fun f s1 hsp => ?_) (fun e s1 he => he)
  · -- the catch
    obtain ⟨a, B, sI, pins', σ', H', cls, d, rfl, J', nb, up, sky, na, os, ag, hd0, C, rfl, hb1, hyes⟩ := xx
    subst hd0
    have J : Inv X pins σ' H' sI := J'.ofTry ok
    have sky' : Sky B (X.env :: X.outer) a (Zc (.ref C) none) X.env.locals s'.heap := by rw [← hs]; exact sky
    show wpAny (model X.prog X.w) X.A (noteFrame (.ref a) X.env) _ _ _
    refine Sky.land Zc.steady hfr hf sky' fun h3 fl3 up3 => ?_
    have J3 : Inv X pins σ' H' { s' with heap := h3 } := J.landed nb fl3.1 (up.trans up3) os ag
    obtain ⟨oe3, vs3, he3, hz3, hd3⟩ := fl3.there
    have notFr : ∀ {h : Heap} {o : Obj} {vs : Array Value}, h.FunFrames B (X.env :: X.outer) → h.get? a = some o → o.data = .fields vs → a ∉ frs (X.env :: X.outer) := fun {h o vs} ff e dd hm => by
      obtain ⟨_, o', e', hnf⟩ := ff.mem hm
      rw [e] at e'; cases e'
      exact hnf _ dd
    have nfr := notFr fl3.2.2.1 he3 hd3
    have nL : a ≠ X.env.locals := fun z => nfr (List.mem_filterMap.mpr ⟨X.env, List.mem_cons_self, by rw [hf, z]⟩)
    have nF : a ∉ X.fs := fun hm => by
      obtain ⟨e, he, q⟩ := List.mem_filterMap.mp hm
      exact nfr (List.mem_filterMap.mpr ⟨e, List.mem_cons_of_mem _ he, q⟩)
    have nI : sI.heap.get? a = none := by
      cases e : sI.heap.get? a with
      | none => rfl
      | some o =>
        have := nb a o e (by rw [hs]; exact nfr)
        rw [fl3.2.1] at this
        cases this
    have n0 : X.s_0.heap.get? a = none := by
      cases e : X.s_0.heap.get? a with
      | none => rfl
      | some o =>
        obtain ⟨o', e'⟩ := J.base.there a o e (by rw [hex]; exact fun z => nomatch z)
        rw [nI] at e'
        cases e'
    have npin : ∀ p ∈ X.pn ++ pins, p.1 ≠ a := fun p hp z => by
      obtain ⟨e, _⟩ := J.pin p hp
      rw [z, nI] at e
      cases e
    have S3 := J3.suite he3 hd3 na nL nF
    refine wpAny_handleBy_cons (codeAny_handlers_test ?_) (by intro q; cases q)
    have LT : PySem.W.Looks (model X.prog X.w) h3 (typeOf (.ref a)) (.ref C) := fun A Q E s k q => wpAny_typeOf_ref (k _ _ he3) (by rw [hz3.1]; exact q)
    have LM := PySem.W.exm_one (M := model X.prog X.w) (J3.kIn) LT hb1
    have test : ∀ {Q : Value → Shared → Prop} {E : Value → Shared → Prop}, Q c { s' with heap := h3 } → wpAny (model X.prog X.w) (X.A.mark (some (.ref a))) (eval (.Name x np) X.env) Q E { s' with heap := h3 } := fun {Q E} q => by
      obtain ⟨hg, hdbg, hm | ⟨hm, hv, hnn⟩⟩ := hc
      · exact ld_glob (X := X.suite a ((a, oe3) :: (X.pn ++ pins))) S3 hg hm q hdbg
      · exact ld_blt (X := X.suite a ((a, oe3) :: (X.pn ++ pins))) S3 hg hm hv q hnn hdbg
    refine test (LM.here ?_)
    refine codeAny_handlers_suite_as ?_
    refine HandSPX.lands_againZ fl3 fun h4 fl4 up4 => ?_
    have J4 : Inv X pins σ' H' { s' with heap := h4 } := J.landed nb fl4.1 ((up.trans up3).trans up4) os ag
    obtain ⟨oe4, vs4, he4, hz4, hd4⟩ := fl4.there
    have J5 : Inv X pins σ' (upd H' a (ExV C a)) { s' with heap := h4 } := adopt J4 na n0 nL (fun v ⟨o, e, dd⟩ => by
      have e' : h4.get? a = some o := e
      rw [he4] at e'
      cases e'
      rw [hd4] at dd
      cases dd) npin (exV_ok he4 hz4 hd4)
    refine store_ok (X := X.suite a (X.pn ++ pins)) (v := .ref a) (toSuite J5 a) hN hi hloc rfl (fun s5 S5 => ?_) (.inr hln)
    refine wpAny_mono ((hsu a (X.pn ++ pins)).run [] s5 _ _ _ S5 (hyes a na)) (fun f s6 hsp => ?_) (fun _ _ z => False.elim z)
    have end_ : ∀ {σ6 : L2.St} {H6 : Hp} {Q : Shared → Prop}, Inv (X.suite a (X.pn ++ pins)) [] σ6 H6 s6 → (∀ s7, Inv X pins (σ6.set i none) H6 s7 → Q s7) →
        wpAny (model X.prog X.w) X.A (do bindName X.env n .none; unbindBehindTheSuite X.env n pos') (fun _ s7 => Q s7) X.xe s6 := fun {σ6 H6 Q} S6 hq => gone_ok (ofSuite S6 ok) hN hi hln hq
    cases f with
    | next =>
      obtain ⟨σ6, H6, S6, q6⟩ := hsp
      exact end_ S6 fun s7 J7 => ⟨_, _, J7, q6⟩
    | brk =>
      obtain ⟨σ6, H6, S6, q6⟩ := hsp
      exact end_ S6 fun s7 J7 => ⟨_, _, J7, q6⟩
    | cont =>
      obtain ⟨σ6, H6, S6, q6⟩ := hsp
      exact end_ S6 fun s7 J7 => ⟨_, _, J7, q6⟩
    | ret u =>
      obtain ⟨v6, σ6, H6, S6, r6, q6⟩ := hsp
      exact end_ S6 fun s7 J7 => ⟨_, _, _, J7, r6, q6⟩
  · cases f with
    | next =>
      obtain ⟨σ', H', J', q⟩ := hsp
      exact wpAny_execs_nil ⟨σ', H', J'.ofTry ok, q⟩
    | brk =>
      obtain ⟨σ', H', J', q⟩ := hsp
      exact ⟨σ', H', J'.ofTry ok, q⟩
    | cont =>
      obtain ⟨σ', H', J', q⟩ := hsp
      exact ⟨σ', H', J'.ofTry ok, q⟩
    | ret u =>
      obtain ⟨v, σ', H', J', r, q⟩ := hsp
      exact ⟨v, σ', H', J'.ofTry ok, r, q⟩
/-- a block's reading, told at once -/
def lowS (K : PySem.W.Frag) (W : WX) (t : TS3) : TS := fun D s H => ∃ (G Z : Hp) (r : Rho) (D3 : Ends3), S3 K G Z H [] [] r s ∧ t D3 r ∧ Imp K W G Z D3 D
theorem B3.low {X : Cx} {sts : List Stmt} {t : TS3} (h : B3 X sts t) {W : WX} (tk : Takes X W) : PSs X sts (lowS X.K W t) := by
  obtain ⟨te, ea, sa⟩ := h.ex W tk
  exact ⟨fun pins s σ H D I ⟨G, Z, r, D3, st, ht, im⟩ => ea.run pins s σ H D I (sa G Z H r σ D D3 st ht im)⟩
/-- try: body / except x as n: suite, by values; U: the classes under x -/
def xTry (U : Addr → Prop) (i : Nat) (tb tu : TS3) : TS3 := fun D r => tb { D with ex := fun C r1 => U C ∧ tu { nx := fun r2 => D.nx (r2.set i none), rt := D.rt, bk := fun r2 => D.bk (r2.set i none), ct := fun r2 => D.ct (r2.set i none), ex := fun _ _ => False } (r1.set i (some (.d (excD C)))) } r
theorem m3_try (i : Nat) {U : Addr → Prop} {tb3 tu : TS3} (hs : X.stack = X.env :: X.outer) (hf : X.env.frame = some X.env.locals) (hex : X.ex = []) (hN : X.N.Nodup) (hi : X.N[i]? = some n) (hln : X.env.kindOf n = some .local) (hc : Names X x c) (hU : ∀ C, U C → PySem.W.exmOne X.K (.ref C) c = some true)
    (hb : ∀ (pn : List (Addr × Obj)) (xe : Value → Shared → Prop), PassesOwn (model X.prog X.w) X.A X.env xe → B3 (X.tr pn xe) body tb3)
    (hsu : ∀ (a : Addr) (pn : List (Addr × Obj)), B3 (X.suite a pn) (b₀ :: suite) tu) :
    M3 X (.Try body [.ExceptHandler (some (.Name x np)) (some n) (b₀ :: suite) pos'] [] [] pos) (xTry U i tb3 tu) := by
  refine ⟨fun W tk => ⟨_, ps_try_asV (tb := fun W => lowS X.K W tb3) (ts := lowS X.K (fun _ _ _ _ => False) tu) hs hf hex hN hi hln hc (fun W pn xe tk po => (hb pn xe po).low tk) (fun a pn => (hsu a pn).low takes0), fun G Z H r s D D3 st ht im => ?_⟩⟩
  refine ⟨G, Z, r, _, st, ht, ⟨im.nx, im.rt, im.bk, im.ct, fun Z' H' C r1 s1 g st1 q => ⟨rfl, C, rfl, hU C q.1, fun a ha => ?_⟩⟩⟩
  obtain ⟨g2, st2⟩ := st1.laidG (o := ExV C a) ha
  have gg := g.trans g2
  exact ⟨G, _, _, _, (st2.pushD (.exc upd_same (exV_is C a))).store, q.2, ⟨fun Z3 H3 r3 s3 g3 st3 q3 => im.nx Z3 H3 _ _ (gg.trans g3) st3.wipe q3, fun Z3 H3 r3 s3 x v g3 st3 q3 => im.rt Z3 H3 r3 s3 x v (gg.trans g3) st3 q3, fun Z3 H3 r3 s3 g3 st3 q3 => im.bk Z3 H3 _ _ (gg.trans g3) st3.wipe q3, fun Z3 H3 r3 s3 g3 st3 q3 => im.ct Z3 H3 _ _ (gg.trans g3) st3.wipe q3, fun _ _ _ _ _ _ _ q => q.elim⟩⟩
end
/-! ### isinstance of an exception -/
def rIsX (K : PySem.W.Frag) : List V → Hp → VK → Prop := fun xs H Q => ∃ (a C : Addr) (o : HO) (c : V) (cv : Value) (b : Bool), xs = [.ref a, c] ∧ H a = some o ∧ IsExc C a o ∧ ExcC K C ∧ (∀ u, RelV c u → u = cv) ∧ PySem.W.kitOne K (.ref C) cv = some b ∧ Q (.bl b) H
theorem call_isX {X : Cx} : CallR X (.builtin "isinstance") (rIsX X.K) := by
  intro pins s σ H xs us Q I r h
  obtain ⟨a, D, o, c, cv, b, rfl, ho, ⟨φ, rfl, hφ⟩, C, hcv, e, q⟩ := h
  cases r with
  | cons rx rr =>
    cases rr with
    | cons rt rr =>
      cases rr
      cases rx
      have ec := hcv _ rt
      subst ec
      have ob : ObjOk X.prog X.w H s.heap a (.ext φ) := I.hok a _ ho
      obtain ⟨oe, vs, hget, hz, hv⟩ := hφ _ ob.1
      have J : PySem.W.InstAt s.heap a oe D none := by
        obtain ⟨oc, od, oda, osl⟩ := oe
        obtain ⟨h1, h2⟩ := hz
        dsimp only at h1 h2 hv
        subst h1 h2 hv
        exact ⟨hget, rfl, rfl, trivial⟩
      exact PySem.W.kia_one (PySem.W.handS_kitx_exc C.hg C.hk C.hs C.hd C.ha C.hn C.ht C.hm) I.kIn J e (fun z => nomatch z) fun tk => ⟨.bl b, H, I.kept (t' := tk) fun _ _ z => z, rfl, q⟩
section
variable {X : Cx} {a e : Expr} {ta t : TE3} {pos p p2 : Pos}
/-- N: the classes' names; c: where they stand; sub: which is under which -/
def xIsE (N : List Str) (c : Str → Addr) (sub : Str → Str → Bool) (m : Str) (ta : TE3) : TE3 := fun r Q => ta r fun x r' => ∃ n, n ∈ N ∧ x = .d (excD (c n)) ∧ Q (.d (.bool (sub n m))) r'
theorem r3_isE {N : List Str} {c : Str → Addr} {sub : Str → Str → Bool} {m : Str} {v0 : V} {cv : Value} (hg : Gl X "isinstance") (hm : X.mg "isinstance" = none)
    (hC : ∀ n ∈ N, ExcC X.K (c n)) (hcv : ∀ u, RelV v0 u → u = cv) (hk : ∀ n ∈ N, PySem.W.kitOne X.K (.ref (c n)) cv = some (sub n m)) (hp : PE X (.Name m p2) (tC v0)) (ha : R3 X a ta)
    (he : starEach [a, .Name m p2] X.env = (false, eval a X.env) :: starEach [.Name m p2] X.env := by rfl) (he2 : starEach [.Name m p2] X.env = (false, eval (.Name m p2) X.env) :: starEach [] X.env := by rfl)
    (hpl : (backTo pos (starEach [.Name m p2] X.env)).any (·.1) = false := by rfl) : R3 X (.Call (.Name "isinstance" p) [a, .Name m p2] [] pos) (xIsE N c sub m ta) := by
  obtain ⟨tea, ea, sa⟩ := ha.ex
  refine ⟨_, pe_callB call_isX hg hm boot_isinstance (pa_cons ea (pa_cons hp pa_nil he2) he) (by decide) (by decide) he hpl, fun G Z H ks vs r s Q Q3 st ht k => sa G Z H ks vs r s _ _ st ht fun Z1 H1 x v r1 g1 st1 pv q => ?_⟩
  obtain ⟨n, hn, rfl, q⟩ := q
  cases (show Dq X.K Z1 v (excD (c n)) from pv) with
  | exc h1 h2 => exact ⟨_, c n, _, v0, cv, _, rfl, st1.zh _ _ h1, h2, hC n hn, hcv, hk n hn, k Z1 H1 (.d (.bool _)) _ r1 g1 st1 (Dq.bl _) q⟩
/-! ### l.index(b), l.count(b) of a list of truths -/
end
/-! ### the program's classes of refusals -/
def errN : List Str := ["NoAsking", "NoNumber", "NoText", "NoLattice", "NoAsk"]
def errSub (n m : Str) : Bool := n == m || m == "UnderError" || m == "ValueError"
/-- the address of a class, by its name -/
def cOf (mg : Str → Option Value) (n : Str) : Addr := match mg n with | some (.ref a) => a | _ => 0
theorem cOf_eq {mg : Str → Option Value} {n : Str} {a : Addr} (h : mg n = some (.ref a)) : cOf mg n = a := by
  unfold cOf
  rw [h]
/-- one of the refusals under the classes' head -/
def Under (cN : Str → Addr) (C : Addr) : Prop := ∃ n, n ∈ errN ∧ C = cN n
structure ErrC (K : PySem.W.Frag) (mg : Str → Option Value) (n : Str) : Prop where
  g : mg n = some (.ref (cOf mg n))
  x : PySem.W.excIn K (cOf mg n) [.type "ValueError", .type "Exception", .type "BaseException", .type "object"] "ValueError.__new__" = true
  k : PySem.W.keepIn K (.ref (cOf mg n)) = true
  b : PySem.W.subIn K (.ref (cOf mg n)) (.type "BaseException") = some true
  t : PySem.W.typeIn K (.ref (cOf mg n)) = some (.type "type")
  c : ExcC K (cOf mg n)
  u : PySem.W.exmOne K (.ref (cOf mg n)) (.ref (cOf mg "UnderError")) = some true
  i : ∀ m, m ∈ errN ∨ m = "UnderError" → PySem.W.kitOne K (.ref (cOf mg n)) (.ref (cOf mg m)) = some (errSub n m)
  v : PySem.W.kitOne K (.ref (cOf mg n)) (.type "ValueError") = some true
structure ErrOk (K : PySem.W.Frag) (mg : Str → Option Value) : Prop where
  e : ∀ n ∈ errN, ErrC K mg n
  u : mg "UnderError" = some (.ref (cOf mg "UnderError"))
  v : mg "ValueError" = none
theorem ErrOk.und {K : PySem.W.Frag} {mg : Str → Option Value} (h : ErrOk K mg) : ∀ C, Under (cOf mg) C → PySem.W.exmOne K (.ref C) (.ref (cOf mg "UnderError")) = some true := fun C ⟨n, hn, e⟩ => by
  rw [e]; exact (h.e n hn).u
section
variable {X : Cx} {a : Expr} {ta : TE3} {pos p p2 pos' : Pos}
/-- raise X('m'), of the program's own -/
theorem m3_raiseN (n : Str) {m : Str} {j} (E : ErrOk X.K X.mg) (hg : Gl X n) (hn : n ∈ errN := by decide) (hc : X.calm = true := by rfl) (hdb : (n == ("__debug__" : Str)) = false := by decide) : M3 X (.Raise (some (.Call (.Name n p) [.Constant (.str m) j p2] [] pos)) none pos') (xRaise (cOf X.mg n)) :=
  m3_raise hc (pmk_own PySem.F.excBase_ValueError (E.e n hn).x (E.e n hn).g (E.e n hn).k (raises_own (E.e n hn).b (E.e n hn).t) hg hdb)
theorem r3_isN_ (m : Str) (E : ErrOk X.K X.mg) (hg : Gl X "isinstance") (hm : X.mg "isinstance" = none) (hgm : Gl X m) (ha : R3 X a ta) (hn : m ∈ errN ∨ m = "UnderError" := by decide)
    (he : starEach [a, .Name m p2] X.env = (false, eval a X.env) :: starEach [.Name m p2] X.env := by rfl) (he2 : starEach [.Name m p2] X.env = (false, eval (.Name m p2) X.env) :: starEach [] X.env := by rfl)
    (hpl : (backTo pos (starEach [.Name m p2] X.env)).any (·.1) = false := by rfl) (hd : (m == ("__debug__" : Str)) = false := by decide) : R3 X (.Call (.Name "isinstance" p) [a, .Name m p2] [] pos) (xIsE errN (cOf X.mg) errSub m ta) :=
  r3_isE (v0 := .ref (cOf X.mg m)) (cv := .ref (cOf X.mg m)) hg hm (fun n hn => (E.e n hn).c) (fun u r => by cases r; rfl) (fun n hn2 => (E.e n hn2).i m hn) (pe_glob hgm (by
    rcases hn with h | h
    · exact (E.e m h).g
    · subst h; exact E.u) rfl hd) ha he he2 hpl
theorem r3_isV (E : ErrOk X.K X.mg) (hg : Gl X "isinstance") (hm : X.mg "isinstance" = none) (hgm : Gl X "ValueError") (ha : R3 X a ta)
    (he : starEach [a, .Name "ValueError" p2] X.env = (false, eval a X.env) :: starEach [.Name "ValueError" p2] X.env := by rfl) (he2 : starEach [.Name "ValueError" p2] X.env = (false, eval (.Name "ValueError" p2) X.env) :: starEach [] X.env := by rfl)
    (hpl : (backTo pos (starEach [.Name "ValueError" p2] X.env)).any (·.1) = false := by rfl) : R3 X (.Call (.Name "isinstance" p) [a, .Name "ValueError" p2] [] pos) (xIsE errN (cOf X.mg) errSub "ValueError" ta) :=
  r3_isE (v0 := .ty "ValueError") (cv := .type "ValueError") hg hm (fun n hn => (E.e n hn).c) (fun u r => by cases r; rfl) (fun n hn => by rw [(E.e n hn).v]; unfold errSub; simp) (pe_bltn hgm E.v boot_ValueError rfl (by decide) (by decide)) ha he he2 hpl
theorem m3_tryU (i : Nat) {n : Str} {b₀ : Stmt} {body suite : List Stmt} {np : Pos} {tb tu : TS3} (E : ErrOk X.K X.mg) (hN : X.N.Nodup) (hg : Gl X "UnderError")
    (hb : ∀ (pn : List (Addr × Obj)) (xe : Value → Shared → Prop), PassesOwn (model X.prog X.w) X.A X.env xe → B3 (X.tr pn xe) body tb)
    (hsu : ∀ (a : Addr) (pn : List (Addr × Obj)), B3 (X.suite a pn) (b₀ :: suite) tu) (hs : X.stack = X.env :: X.outer := by rfl) (hf : X.env.frame = some X.env.locals := by rfl) (hex : X.ex = [] := by rfl) (hi : X.N[i]? = some n := by rfl) (hln : X.env.kindOf n = some .local := by rfl) :
    M3 X (.Try body [.ExceptHandler (some (.Name "UnderError" np)) (some n) (b₀ :: suite) pos'] [] [] pos) (xTry (Under (cOf X.mg)) i tb tu) :=
  m3_try i hs hf hex hN hi hln ⟨hg, by decide, .inl E.u⟩ E.und hb hsu
end
theorem kit_ref {K : PySem.W.Frag} {D C : Addr} {b : Bool} (hsub : PySem.W.subIn K (.ref D) (.ref C) = some b) (hself : PySem.W.subIn K (.ref D) (.ref D) = some true) (hd : PySem.W.hasDictIn K C = true) (ht : PySem.W.typeIn K (.ref C) = some (.type "type")) : PySem.W.kitOne K (.ref D) (.ref C) = some b := by
  unfold PySem.W.kitOne
  by_cases e : D = C
  · subst e
    rw [hself] at hsub
    cases hsub
    rw [if_pos (by simp)]
  · rw [if_neg (by simpa using e)]
    obtain ⟨cd, hc, _⟩ := PySem.W.any_some hd
    unfold PySem.W.kitCls
    show (if ((PySem.W.clsIn K C).isSome && PySem.W.typeIn K (.ref C) == some (.type "type")) = true then _ else _) = _
    rw [hc, ht, if_pos (by rfl)]
    exact hsub
theorem kit_val {K : PySem.W.Frag} {D : Addr} (h : PySem.W.subIn K (.ref D) (.type "ValueError") = some true) : PySem.W.kitOne K (.ref D) (.type "ValueError") = some true := by
  unfold PySem.W.kitOne
  rw [if_neg (by rw [show ((Value.ref D) == Value.type "ValueError") = false from rfl]; exact Bool.false_ne_true)]
  unfold PySem.W.kitCls
  show (if PySem.W.kitMeta "ValueError" = true then _ else _) = _
  rw [if_pos (by decide +kernel)]
  exact h
theorem errN_cases {n : Str} (h : n ∈ errN) : n = "NoAsking" ∨ n = "NoNumber" ∨ n = "NoText" ∨ n = "NoLattice" ∨ n = "NoAsk" := by
  simpa [errN] using h
theorem errC_of {K : PySem.W.Frag} {mg : Str → Option Value} {n : Str} {e eU : Addr} (g : mg n = some (.ref e)) (gU : mg "UnderError" = some (.ref eU)) (x : PySem.W.excIn K e [.type "ValueError", .type "Exception", .type "BaseException", .type "object"] "ValueError.__new__" = true) (k : PySem.W.keepIn K (.ref e) = true) (b : PySem.W.subIn K (.ref e) (.type "BaseException") = some true)
    (t : PySem.W.typeIn K (.ref e) = some (.type "type")) (hd : PySem.W.hasDictIn K e = true) (hg : PySem.W.findIn K (.ref e) "__getattribute__" = some (some (.builtin "BaseException.__getattribute__"))) (hk : PySem.W.findIn K (.ref e) "__getattr__" = some none) (ha : PySem.W.findIn K (.ref e) "__class__" = some (some (.builtin "object.__class__")))
    (hn : PySem.W.specialIn K (.builtin "object.__class__") "__get__" = some (some (.builtin "getset_descriptor.__get__"))) (ht : PySem.W.takesIn K (.builtin "object.__class__") = some true) (hm : PySem.W.mroIn K e (.type "object") = some true) (u0 : PySem.W.subIn K (.ref e) (.ref eU) = some true) (bU : PySem.W.subIn K (.ref eU) (.type "BaseException") = some true)
    (hdU : PySem.W.hasDictIn K eU = true) (tU : PySem.W.typeIn K (.ref eU) = some (.type "type")) (self : PySem.W.subIn K (.ref e) (.ref e) = some true) (v : PySem.W.subIn K (.ref e) (.type "ValueError") = some true)
    (i : ∀ m, m ∈ errN ∨ m = "UnderError" → ∃ em, mg m = some (.ref em) ∧ PySem.W.hasDictIn K em = true ∧ PySem.W.typeIn K (.ref em) = some (.type "type") ∧ PySem.W.subIn K (.ref e) (.ref em) = some (errSub n m)) : ErrC K mg n := by
  have q := cOf_eq g
  have qU := cOf_eq gU
  refine ⟨by rw [q]; exact g, by rw [q]; exact x, by rw [q]; exact k, by rw [q]; exact b, by rw [q]; exact t, by rw [q]; exact ⟨hg, hk, b, hd, ha, hn, ht, hm⟩, by rw [q, qU]; exact PySem.W.exm_ref bU hdU tU u0, fun m hm => ?_, by rw [q]; exact kit_val v⟩
  obtain ⟨em, gm, h1, h2, h3⟩ := i m hm
  rw [q, cOf_eq gm]
  exact kit_ref h3 self h1 h2
end L3
namespace L3
open PySem PySem.Spec PyProof.Rows L2
/-- // by any divisor but 0 -/
def CDivF (_ j : Int) : Prop := j ≠ 0 ∧ j.natAbs.log2 < 9000
section
variable {X : Cx} {a b : Expr} {ta tb : TE3} {pos : Pos}
theorem op_fdivF : OpR X (binaryOp .FloorDiv) (rI CDivF fun i j => .int (i.fdiv j)) := opI fun _ _ _ _ _ _ _ hc q => floordiv_int hc.1 q (.inl (PyProof.noPylong_of_log2 hc.2))
abbrev kDivF : C2 := cI CDivF fun i j => .int (i.fdiv j)
theorem r3_fdivF (ha : R3 X a ta) (hb : R3 X b tb) : R3 X (.BinOp a .FloorDiv b pos) (x2 kDivF ta tb) := r3_op op_fdivF (con_I (fun _ _ h => h) fun _ _ _ => rfl) ha hb
end
end L3
/-! enumerate of a list or a tuple -/
namespace PySem
open Sem (wp)
set_option maxHeartbeats 1000000 in
theorem meets_enumerate_newB {v1 : Value} {o1 : Obj} {H1 : Heap → Prop} (B1 : Begins v1 o1 H1) :
    Meets (Builtin.«enumerate.__new__» ⟨[.type "enumerate", v1], []⟩) (fun _ R s => H1 s.heap ∧
      R (.ok (.ret (.ref (s.heap.push o1).objs.size))) { s with heap := (s.heap.push o1).push { cls := .type "enumerate", data := .fields #[.none, .bool false, .ref s.heap.objs.size, rawInt 0, .none, .none] } }) :=
  .of_wp fun prog w A R s h => by
    obtain ⟨hp, g, d, tk, os⟩ := s; obtain ⟨h1, h⟩ := h
    have hsub := sub_enumerate
    have q1 : ∀ {A' : Around} {E : Value → Shared → Prop} {Q : Value → Shared → Prop}, Q (.ref hp.objs.size) ⟨(hp.push o1), g, d, tk, os⟩ → wpAny (model prog w) A' (pyIter v1) Q E ⟨hp, g, d, tk, os⟩ :=
      fun q => B1.iter prog w _ _ ⟨hp, g, d, tk, os⟩ _ (B1.keeps _ _ h1 fun b o' e => e) q
    wp_walk
    refine wpAny_stack_any fun st => wpAny_pure ?_
    split
    · rename_i c _ _ _ _ _
      cases (c == Value.type "enumerate")
      · wp_walk using q1
        exact ⟨_, rfl, h⟩
      · wp_walk using q1
        exact ⟨_, rfl, h⟩
    · wp_walk using q1
      exact ⟨_, rfl, h⟩
theorem enumerate_begins {prog : Program} {w : World} {A : Around} {E : Value → Shared → Prop} {s : Shared} {v1 : Value} {o1 : Obj} {H1 : Heap → Prop} {Q : Value → Shared → Prop} (B1 : Begins v1 o1 H1) (h1 : H1 s.heap)
    (h : ∀ h', IsEnum h' (s.heap.objs.size + 1) s.heap.objs.size 0 .none → h'.get? s.heap.objs.size = some o1 → h'.objs.size = s.heap.objs.size + 2 →
      (∀ b o, s.heap.get? b = some o → h'.get? b = some o) → Q (.ref (s.heap.objs.size + 1)) { s with heap := h' }) :
    wpAny (model prog w) A (call (.type "enumerate") [v1]) Q E s := by
  refine callType_new F.called_enumerate (by decide) (F.typeCall_enumerate_1 _) (F.newCall_enumerate_1 _) (fun obj => F.args_object_init_2 obj _) F.entry_enumerate_new
    (meets_enumerate_newB B1) ⟨h1, ?_⟩
  have hz : (s.heap.push o1).objs.size = s.heap.objs.size + 1 := Heap.size_push ..
  show _ ∧ _
  rw [hz]
  have he : IsEnum ((s.heap.push o1).push
      { cls := .type "enumerate", data := .fields #[.none, .bool false, .ref s.heap.objs.size, rawInt 0, .none, .none] }) (s.heap.objs.size + 1) s.heap.objs.size 0 .none := by
    have := Heap.get?_push_size (s.heap.push o1)
      (o := { cls := .type "enumerate", data := .fields #[.none, .bool false, .ref s.heap.objs.size, rawInt 0, .none, .none] }) rfl
    rw [hz] at this; exact this
  exact ⟨⟨_, he, rfl⟩, h _ he (Heap.get?_push_of_some _ (Heap.get?_push_size _ B1.free)) (by rw [Heap.size_push, hz]) fun b o x => Heap.get?_push_of_some _ (Heap.get?_push_of_some _ x)⟩
end PySem
namespace L3
open PySem PySem.Spec PyProof.Rows L2 RZ
def IteX (K : PySem.W.Frag) (p : Bool) (a : Addr) : It :=
  ⟨fun i H => ∃ (xs : List V) (x : V), SqX K p H a xs ∧ xs[i]? = some x, fun i H v H' => ∃ T x, v = .ref T ∧ H T = none ∧ H' = upd H T (.tup [.int (i : Nat), x]) ∧ ∀ xs, SqX K p H a xs → xs[i]? = some x, fun i H => ∃ xs : List V, SqX K p H a xs ∧ xs.length ≤ i⟩
theorem turn_enumX {P : Program} {w : World} {K : PySem.W.Frag} {elts : List Expr} {kk : Nat} {tpos : Pos} {p : Bool} (a e it : Addr) (ne1 : a ≠ it) (ne2 : a ≠ e) :
    Turn P w K (.Tuple elts kk tpos) (IteX K p a) [e, it] e (fun i h => (∃ old, IsEnum h e it ((i : Nat) : Int) old) ∧ ItIs p h it a i ∧ e ≠ it) where
  mem := by simp
  obj := fun i h st b hb => by
    obtain ⟨⟨old, he⟩, hi, _⟩ := st
    obtain ⟨o, vs, ho, hd⟩ := hi.fields
    have e' : b = e ∨ b = it := by simpa using hb
    rcases e' with z | z
    · rw [z]; exact ⟨_, he, fun v q => nomatch q⟩
    · rw [z]; exact ⟨o, ho, fun v q => by rw [hd] at q; cases q⟩
  keep := fun i h h' st k => let ⟨⟨old, he⟩, hi, hne⟩ := st; ⟨⟨old, k e (by simp) _ he⟩, hi.at fun o q => k it (by simp) o q, hne⟩
  item := by
    intro X hP hw hK hc i pins s σ H E I hf st hg
    subst hP hw hK
    obtain ⟨⟨old, he⟩, hit, hne⟩ := st
    obtain ⟨xs, x, hq, hx⟩ := hg
    obtain ⟨its, rv, p1, _⟩ := seqX I hq
    obtain ⟨u, hu, ru⟩ := rv.get hx
    have hel : e < s.heap.objs.size := Heap.lt_size he
    have hil : it < s.heap.objs.size := by obtain ⟨_, _, q, _⟩ := hit.fields; exact Heap.lt_size q
    have s1 : i < its.toArray.size := by have := (List.getElem?_eq_some_iff.mp hu).1; simpa using this
    refine wpAny_pyNext_enum_itemD (drawsX (A := X.A.in1) (I.ok.hd hc) p it a ne1 its.toArray) he ⟨hit, p1⟩ s1 hne (by simp [hne, Ne.symm ne2]) fun w1 h' tk y1 ho hit' hT hsz hk => ?_
    have e1 : w1 = u := by
      have : its.toArray[i]? = some w1 := y1
      rw [List.getElem?_toArray, hu] at this
      cases this; rfl
    subst e1
    refine ⟨_, rfl, wpAny_letOwnedTupleGo_enum (s := { s with heap := h', toks := tk + 1 }) ho fun h'' he' sb => ?_⟩
    have hT2 : h''.get? s.heap.objs.size = some { cls := .type "tuple", data := .seq #[.int i tk, w1] } := (sb.2 _ (Nat.ne_of_gt hel)).trans hT
    have new : ObjOk X.prog X.w (upd H s.heap.objs.size (.tup [.int (i : Nat), x])) h'' s.heap.objs.size (.tup [.int (i : Nat), x]) :=
      ⟨by show 2 ≤ sizeLine; decide, [.int i tk, w1], .cons ⟨_, rfl⟩ (.cons ru .nil), ⟨_, hT2, rfl, _, rfl⟩⟩
    have I1 : Inv X pins σ (upd H s.heap.objs.size (.tup [.int (i : Nat), x])) { s with heap := h'', toks := tk + 1 } :=
      I.turnedNew (t' := tk + 1) (ch := [e, it]) (fun b ob hb q => (sb.2 b (fun z => hb (by simp [z]))).trans (hk b ob (fun z => hb (by simp [z])) (fun z => hb (by simp [z])) q)) hf (Nat.le_refl _) new
    refine ⟨.ref s.heap.objs.size, _, I1, rfl, ⟨_, x, rfl, I.hok.fresh (Nat.le_refl _), rfl, fun ys hy => by rw [seqX_inj I hy hq]; exact hx⟩, ⟨⟨w1, ?_⟩, hit'.1.at fun o q => (sb.2 it (Ne.symm hne)).trans q, hne⟩, fun b hb => ?_⟩
    · have e1 : ((i + 1 : Nat) : Int) = (i : Int) + 1 := by omega
      rw [e1]; exact he'
    · have hb' : b < s.heap.objs.size := by
        have e' : b = e ∨ b = it := by simpa using hb
        rcases e' with z | z
        · rw [z]; exact hel
        · rw [z]; exact hil
      rw [upd_ne (Nat.ne_of_lt hb')]
      exact (hf b hb).1
  done := by
    intro X hP hw hK hc i pins s σ H E I hf st hg
    subst hP hw hK
    obtain ⟨⟨old, he⟩, hit, hne⟩ := st
    obtain ⟨xs, hq, hx⟩ := hg
    obtain ⟨its, rv, p1, _⟩ := seqX I hq
    obtain ⟨f0, f1, f2, f3, f4, f5⟩ := hf it (by simp)
    have hl := rv.length
    obtain ⟨n1, P1, St1, D1, a1, b1, c1⟩ := drawsAt (prog := X.prog) (w := X.w) (A := X.A.in1) (I.ok.hd hc) p it a ne1 its.toArray i
    have en : i = n1 := b1 (by simp; omega)
    have st1 : St1 n1 s.heap := by rw [← en]; exact c1 _ hit p1
    exact wpAny_pyNext_enum_endD D1 he st1 fun h' eb => ⟨rfl, I.turned (t' := s.toks) (fun b o hb q => eb b o hb q) f0 f1 f3 f4 f5⟩
  self := fun A i s Q E st h => let ⟨⟨_, he⟩, _⟩ := st; wpAny_pyIter_enum he h
def iEnumX (K : PySem.W.Frag) (ta : TA) : TI := fun σ H R => ta σ H fun vs H1 => ∃ p a xs, vs = [.ref a] ∧ SqX K p H1 a xs ∧ R (IteX K p a) H1
theorem pi_enumX {X : Cx} {e : Expr} {ta : TA} {p pos tpos : Pos} {elts : List Expr} {kk : Nat} (hg : Gl X "enumerate") (hm : X.mg "enumerate" = none) (ha : PA X [e] ta) (hs : starEach [e] X.env = [(false, eval e X.env)] := by rfl) :
    PI X (.Tuple elts kk tpos) (.Call (.Name "enumerate" p) [e] [] pos) (iEnumX X.K ta) := by
  refine ⟨fun pins s σ H R I h => ?_⟩
  refine Call_ (ld_blt I hg hm boot_enumerate (PyProof.Rows.callWith_type1 (thn (ha.run pos pins s σ H _ I h) fun us s1 ⟨vs, H1, I1, r1, q1⟩ => ?_) hs rfl))
  obtain ⟨p, a, xs, ex, hq, q⟩ := q1
  subst ex
  cases r1 with
  | cons r rr =>
    cases rr
    cases r
    obtain ⟨its, rv, p', lt⟩ := seqX I1 hq
    refine enumerate_begins (beginsX p a its.toArray) p' fun h' he hit hsz hk => wpAny_pyIter_enum he ?_
    have I2 : Inv X pins σ H1 { s1 with heap := h' } := I1.kept (t' := s1.toks) hk
    have lt' : a < s1.heap.objs.size := lt
    refine ⟨s1.heap.objs.size + 1, [s1.heap.objs.size + 1, s1.heap.objs.size], _, _, H1, rfl, I2, turn_enumX a (s1.heap.objs.size + 1) s1.heap.objs.size (Nat.ne_of_lt lt') (Nat.ne_of_lt (Nat.lt_succ_of_lt lt')), ⟨⟨.none, he⟩, itOb_is hit, Nat.succ_ne_self _⟩, fun b hb => ?_, q⟩
    have e' : b = s1.heap.objs.size + 1 ∨ b = s1.heap.objs.size := by simpa using hb
    have hle : s1.heap.objs.size ≤ b := by
      rcases e' with z | z
      · rw [z]; exact Nat.le_add_right _ _
      · rw [z]; exact Nat.le_refl _
    exact I1.fpOk hle (I1.hok.fresh hle)
section
variable {X : Cx} {a : Expr} {ta : TE3} {p pos : Pos}
def xEnumX (t : TE3) : TI3 := fun r R => t r fun x r' => ∃ l, (seqOf x).map (·.2) = some l ∧ R (enumD l) r'
theorem i3_enumX {tpos : Pos} {elts : List Expr} {kk : Nat} (hg : Gl X "enumerate") (hm : X.mg "enumerate" = none) (ha : R3 X a ta) (hs : starEach [a] X.env = [(false, eval a X.env)] := by rfl) (hs2 : starEach [a] X.env = (false, eval a X.env) :: starEach [] X.env := by rfl) :
    I3 X (.Tuple elts kk tpos) (.Call (.Name "enumerate" p) [a] [] pos) (xEnumX ta) := by
  obtain ⟨te, ee, se⟩ := ha.ex
  refine ⟨_, pi_enumX hg hm (pa_cons ee pa_nil hs2) hs, fun G Z H ks vs r s R Q3 st ht k => se G Z H ks vs r s _ _ st ht fun Z1 H1 x v r1 g1 st1 pv q => ?_⟩
  obtain ⟨l, e1, q⟩ := q
  cases sx : seqOf x with
  | none => rw [sx] at e1; cases e1
  | some bl =>
    obtain ⟨b1, l'⟩ := bl
    rw [sx] at e1; cases e1
    obtain ⟨a1, xs, rfl, hs1, ha1⟩ := seqOf_sq sx pv
    refine ⟨b1, a1, xs, rfl, hs1 _ st1.zh, k Z1 H1 _ _ r1 g1 st1 (fun Z' H' i z zh => ⟨fun x hx => ?_, fun hi => ?_⟩) q⟩
    · obtain ⟨y, e1, rfl⟩ := enumD_get hx
      obtain ⟨vy, f1, d1⟩ := dpa_get ha1 e1
      refine ⟨⟨xs, vy, hs1 _ (z.trans zh), f1⟩, fun v' H' ⟨T0, x', h1, h2, h3, h4⟩ => .inr ⟨T0, _, h2, h3, ?_⟩⟩
      have i1 := h4 xs (hs1 _ (z.trans zh))
      rw [f1] at i1; cases i1
      rw [h1]
      have s : Sub Z' (upd Z' T0 (.tup [.int (i : Nat), vy])) := fun a o e => by rw [upd_ne (fun q => by rw [q] at e; have := zh _ _ e; rw [h2] at this; cases this)]; exact e
      exact .tup upd_same (.cons (.int _) (.cons (dp_mono s _ _ (dp_mono z _ _ d1)) .nil))
    · exact ⟨xs, hs1 _ (z.trans zh), by rw [← dpa_len ha1]; rw [enumD_len] at hi; exact hi⟩
end
end L3
namespace L3
open PySem PySem.Spec PyProof.Rows L2
/-! % by any divisor but 0 -/
end L3
/-! a tuple so many times, also once and none; l.extend -/
namespace L3
open PySem PySem.Spec PyProof.Rows L2
theorem tuple_mul1 (l : Addr) (items : Array Value) (n : Nat) (dd : Option Addr) (sl : Array (Option Value)) (u : Tok) :
    Meets (Builtin.«tuple.__mul__» ⟨[.ref l, .int 1 u], []⟩) (fun _ R s => s.heap.get? l = some { cls := .type "tuple", dict := dd, data := .seq items n, slots := sl } ∧
      R (.ok (.ret (Value.ref l))) s) :=
  .of_wp fun prog w A R s h => by
    obtain ⟨hp, g, d, tk, os⟩ := s
    obtain ⟨hl, h⟩ := h
    have f1 := AutoSeq1.idx_int
    have c1 : (items.isEmpty || (1 : Int) == 1) = true := by rw [show ((1 : Int) == 1) = true from rfl, Bool.or_true]
    wp_walk using wpAny_loadPart' hl
    exact ⟨_, rfl, h⟩
theorem tuple_mul0 (l : Addr) (items : Array Value) (n : Nat) (dd : Option Addr) (sl : Array (Option Value)) (u : Tok) (c1 : items.isEmpty = false) :
    Meets (Builtin.«tuple.__mul__» ⟨[.ref l, .int 0 u], []⟩) (fun _ R s => s.heap.get? l = some { cls := .type "tuple", dict := dd, data := .seq items n, slots := sl } ∧
      R (.ok (.ret (Value.ref s.heap.objs.size))) { s with heap := s.heap.push { cls := Value.type "tuple", data := Data.seq #[] }, toks := s.toks }) :=
  .of_wp fun prog w A R s h => by
    obtain ⟨hp, g, d, tk, os⟩ := s
    obtain ⟨hl, h⟩ := h
    have f1 := AutoSeq1.idx_int
    have c2 : (items.isEmpty || (0 : Int) == 1) = false := by rw [c1]; rfl
    wp_walk using wpAny_loadPart' hl
    repeat (first
      | (refine wpAny_ite_false (decide_eq_false (by rw [c2]; exact Bool.false_ne_true)) ?_; wp_walk using wpAny_loadPart' hl))
    exact ⟨_, rfl, h⟩
def rRepT1 (K : PySem.W.Frag) : R2 := fun x y H Q => ∃ l xs, x = .ref l ∧ y = .int 1 ∧ SqT K H l xs ∧ Q (.ref l) H
def rRepT0 (K : PySem.W.Frag) : R2 := fun x y H Q => ∃ l xs, x = .ref l ∧ y = .int 0 ∧ SqT K H l xs ∧ xs ≠ [] ∧ ∀ p, H p = none → Q (.ref p) (upd H p (.tup []))
section
variable {X : Cx}
theorem op_repT1 : OpR X (binaryOp .Mult) (rRepT1 X.K) := by
  intro pins s σ H x y v u Q I rx ry h
  obtain ⟨l, xs, rfl, rfl, hT, q⟩ := h
  cases rx
  obtain ⟨t, rfl⟩ := ry
  obtain ⟨its, r, ⟨⟨cls, dd, data, sl⟩, ho, hc, n, hd⟩, hs⟩ := I.tuple hT
  simp only at hc hd
  subst hc hd
  refine wpAny_binaryOp_repeat_ref (T := "tuple") (U := "int") (by decide) ⟨_, ho, rfl⟩ (fun s' => typeIs_int s' 1 t) noFill_tuple_mul F.fills_int_mul F.slot_int_rmul repeat_tuple F.slot_int_index.lookup
    (call_meets F.slot_int_rmul (typeIs_int s 1 t) F.entry_int_rmul (F.args_int_rmul_2 _ _) (int_rmul_tuple 1 t l its.toArray n dd sl)
      ⟨ho, rfl, ⟨_, ho, rfl⟩, call_meets F.slot_tuple_mul ⟨_, ho, rfl⟩ F.entry_tuple_mul (F.args_tuple_mul_2 _ _) (tuple_mul1 l its.toArray n dd sl t) ⟨ho, ?_⟩⟩)
  exact ⟨.ref l, _, I, rfl, q⟩
theorem op_repT0 : OpR X (binaryOp .Mult) (rRepT0 X.K) := by
  intro pins s σ H x y v u Q I rx ry h
  obtain ⟨l, xs, rfl, rfl, hT, hne, q⟩ := h
  cases rx
  obtain ⟨t, rfl⟩ := ry
  obtain ⟨its, r, ⟨⟨cls, dd, data, sl⟩, ho, hc, n, hd⟩, hs⟩ := I.tuple hT
  simp only at hc hd
  subst hc hd
  have hi : its.toArray.isEmpty = false := by
    cases its with
    | nil => exact absurd (List.eq_nil_of_length_eq_zero r.length) hne
    | cons a b => rfl
  refine wpAny_binaryOp_repeat_ref (T := "tuple") (U := "int") (by decide) ⟨_, ho, rfl⟩ (fun s' => typeIs_int s' 0 t) noFill_tuple_mul F.fills_int_mul F.slot_int_rmul repeat_tuple F.slot_int_index.lookup
    (call_meets F.slot_int_rmul (typeIs_int s 0 t) F.entry_int_rmul (F.args_int_rmul_2 _ _) (int_rmul_tuple 0 t l its.toArray n dd sl)
      ⟨ho, rfl, ⟨_, ho, rfl⟩, call_meets F.slot_tuple_mul ⟨_, ho, rfl⟩ F.entry_tuple_mul (F.args_tuple_mul_2 _ _) (tuple_mul0 l its.toArray n dd sl t hi) ⟨ho, ?_⟩⟩)
  refine ⟨.ref s.heap.objs.size, _, I.laid (t' := s.toks) (o := .tup []) (fun b ob q => Heap.get?_push_of_some _ q) (Nat.le_refl _) ?_, rfl, q _ (I.hok.fresh (Nat.le_refl _))⟩
  exact ⟨by decide, _, .nil, IsTup.new _ _⟩
end
section
variable {X : Cx} {a b : Expr} {ta tb : TE3} {pos : Pos}
/-- a tuple so many times -/
def cMulT : C2 := fun _ x y r Q => match x, y with
  | .d (.tuple l), .d (.int j) => l ≠ [] ∧ 0 ≤ j ∧ j ≤ 1000 ∧ l.length ≤ 1000 ∧ Q (.d (.tuple (List.replicate j.toNat l).flatten)) r
  | _, _ => False
theorem con_mulT : Con2P X (fun x y H Q => rRepT X.K x y H Q ∨ rRepT1 X.K x y H Q ∨ rRepT0 X.K x y H Q) cMulT :=
  fun G Z H ks vs r1 r s x y tx ty Q Q3 st px py hc k => by
    unfold cMulT at hc
    split at hc
    · rename_i l j
      obtain ⟨hl, j0, j1, hz, q⟩ := hc
      cases py.int
      cases px.dat _ rfl with
      | @tup a1 xs _ hx ax =>
        have hne : xs ≠ [] := fun e => hl (by subst e; cases ax; rfl)
        rcases (show j = 0 ∨ j = 1 ∨ 2 ≤ j by omega) with rfl | rfl | h2
        · refine .inr (.inr ⟨a1, xs, rfl, rfl, SqT.of (st.zh _ _ hx), hne, fun p hp => ?_⟩)
          obtain ⟨g4, st4⟩ := st.laidG (o := .tup []) hp
          exact k _ _ _ _ r g4 (st4.pushD (.tup upd_same .nil)) q
        · refine .inr (.inl ⟨a1, xs, rfl, rfl, SqT.of (st.zh _ _ hx), ?_⟩)
          refine k Z H _ _ r (Gr.refl _ _) (st.pushD (.tup hx ax)) ?_
          have e : (List.replicate (1 : Int).toNat l).flatten = l := by simp
          rw [e] at q
          exact q
        · refine .inl ⟨a1, j, xs, rfl, rfl, SqT.of (st.zh _ _ hx), hne, h2, j1, by rw [← dpa_len ax]; exact hz, fun p hp => ?_⟩
          obtain ⟨g4, st4⟩ := st.laidG (o := .tup (List.replicate j.toNat xs).flatten) hp
          exact k _ _ _ _ r g4 (st4.pushD (.tup upd_same (dpa_mono g4.sub _ _ (dpa_rep _ ax)))) q
    · exact hc.elim
theorem p3_mulT (ha : R3 X a ta) (hb : R3 X b tb) : P3 X (.BinOp a .Mult b pos) (x2 cMulT ta tb) := p3_op (op_repT.or (op_repT1.or op_repT0)) con_mulT ha hb
end
end L3
namespace L3
open PySem PySem.Spec PyProof.Rows L2
/-! ### is not b, of truths -/
/-! ### isinstance of an exception and some classes -/
def rIsXT (K : PySem.W.Frag) : List V → Hp → VK → Prop := fun xs H Q => ∃ (a C : Addr) (o : HO) (tp : Addr) (cs : List V) (us : List Value) (b : Bool), xs = [.ref a, .ref tp] ∧ H a = some o ∧ IsExc C a o ∧ ExcC K C ∧ H tp = some (.tup cs) ∧ Paired ClsV cs us ∧ PySem.W.kitAny K (.ref C) us = some b ∧ Q (.bl b) H
theorem call_isXT {X : Cx} : CallR X (.builtin "isinstance") (rIsXT X.K) := by
  intro pins s σ H xs us Q I r h
  obtain ⟨a, D, o, tp, cs, ws, b, rfl, ho, ⟨φ, rfl, hφ⟩, C, hT, kk, e, q⟩ := h
  obtain ⟨u1, u2, rfl, r1, r2⟩ := vals2 r
  cases (show u1 = Value.ref a from r1)
  cases (show u2 = Value.ref tp from r2)
  have ob : ObjOk X.prog X.w H s.heap a (.ext φ) := I.hok a _ ho
  obtain ⟨oe, vs, hget, hz, hv⟩ := hφ _ ob.1
  have J : PySem.W.InstAt s.heap a oe D none := by
    obtain ⟨oc, od, oda, osl⟩ := oe
    obtain ⟨h1, h2⟩ := hz
    dsimp only at h1 h2 hv
    subst h1 h2 hv
    exact ⟨hget, rfl, rfl, trivial⟩
  obtain ⟨_, its, rv, o, h1, h2, n, h3⟩ := (show ObjOk X.prog X.w H s.heap tp (.tup cs) from I.hok tp _ hT)
  have e3 := ClsV.all kk rv
  subst e3
  obtain ⟨oc, od, dt, sl⟩ := o
  simp only at h2 h3
  subst h2 h3
  exact PySem.W.kia_tup (PySem.W.handS_kitx_exc C.hg C.hk C.hs C.hd C.ha C.hn C.ht C.hm) I.kIn J h1 e (fun z => nomatch z) fun tk => ⟨.bl b, H, I.tok tk, rfl, q⟩
structure Nm3 (X : Cx) (ms : List Str) (es : List Expr) : Prop where
  ex : PA X es fun σ H Q => Q (ms.map fun m => V.ref (cOf X.mg m)) H
  en : ∀ m ∈ ms, m ∈ errN
section
variable {X : Cx} {a : Expr} {ta : TE3} {pos p p2 : Pos} {ms : List Str} {es : List Expr}
theorem nm_nil : Nm3 X [] [] := ⟨pa_nil, fun _ h => nomatch h⟩
theorem nm_cons (m : Str) (E : ErrOk X.K X.mg) (hgm : Gl X m) (h : Nm3 X ms es) (hn : m ∈ errN := by decide) (hd : (m == ("__debug__" : Str)) = false := by decide) (he : starEach (.Name m p :: es) X.env = (false, eval (.Name m p) X.env) :: starEach es X.env := by rfl) : Nm3 X (m :: ms) (.Name m p :: es) :=
  ⟨pa_cons (pe_glob (v := .ref (cOf X.mg m)) hgm (E.e m hn).g rfl hd) h.ex he, fun x hx => by
    rcases List.mem_cons.mp hx with rfl | hx
    · exact hn
    · exact h.en x hx⟩
def xIsEs (N : List Str) (c : Str → Addr) (sub : Str → Str → Bool) (ms : List Str) (ta : TE3) : TE3 := fun r Q => ta r fun x r' => ∃ n, n ∈ N ∧ x = .d (excD (c n)) ∧ Q (.d (.bool (ms.any fun m => sub n m))) r'
theorem kitAny_names {K : PySem.W.Frag} {mg : Str → Option Value} {n : Str} (E : ErrC K mg n) : ∀ {ms : List Str}, (∀ m ∈ ms, m ∈ errN) → PySem.W.kitAny K (.ref (cOf mg n)) (ms.map fun m => Value.ref (cOf mg m)) = some (ms.any fun m => errSub n m)
  | [], _ => rfl
  | m :: ms, h => by
    have ih := kitAny_names E (ms := ms) fun x hx => h x (List.mem_cons_of_mem _ hx)
    show (match PySem.W.kitOne K (.ref (cOf mg n)) (.ref (cOf mg m)) with | some true => some true | some false => PySem.W.kitAny K (.ref (cOf mg n)) (ms.map fun m => Value.ref (cOf mg m)) | none => none) = _
    rw [E.i m (.inl (h m (by simp))), ih, List.any_cons]
    cases errSub n m <;> rfl
theorem paired_names {mg : Str → Option Value} : ∀ ms : List Str, Paired ClsV (ms.map fun m => V.ref (cOf mg m)) (ms.map fun m => Value.ref (cOf mg m))
  | [] => .nil
  | m :: ms => .cons (.own _) (paired_names ms)
theorem r3_isNs {kk : Nat} {p4 : Pos} (E : ErrOk X.K X.mg) (hg : Gl X "isinstance") (hm : X.mg "isinstance" = none) (ha : R3 X a ta) (h : Nm3 X ms es) (hl : ms.length ≤ 10 := by decide)
    (he : starEach [a, .Tuple es kk p4] X.env = (false, eval a X.env) :: starEach [.Tuple es kk p4] X.env := by rfl) (he2 : starEach [.Tuple es kk p4] X.env = (false, eval (.Tuple es kk p4) X.env) :: starEach [] X.env := by rfl)
    (hpl : (backTo pos (starEach [.Tuple es kk p4] X.env)).any (·.1) = false := by rfl) : R3 X (.Call (.Name "isinstance" p) [a, .Tuple es kk p4] [] pos) (xIsEs errN (cOf X.mg) errSub ms ta) := by
  obtain ⟨tea, ea, sa⟩ := ha.ex
  refine ⟨_, pe_callB call_isXT hg hm boot_isinstance (pa_cons ea (pa_cons (pe_tup h.ex) pa_nil he2) he) (by decide) (by decide) he hpl, fun G Z H ks vs r s Q Q3 st ht k => sa G Z H ks vs r s _ _ st ht fun Z1 H1 x v r1 g1 st1 pv q => ?_⟩
  obtain ⟨n, hn, rfl, q⟩ := q
  refine ⟨by rw [List.length_map]; exact Nat.le_trans hl (by decide), fun tp hp => ?_⟩
  cases (show Dq X.K Z1 v (excD (cOf X.mg n)) from pv) with
  | exc h1 h2 =>
    have st2 := st1.laid (o := .tup (ms.map fun m => V.ref (cOf X.mg m))) hp
    have h3 := st1.zh _ _ h1
    refine ⟨_, cOf X.mg n, _, tp, _, _, _, rfl, ?_, h2, (E.e n hn).c, upd_same, paired_names ms, kitAny_names (E.e n hn) h.en, k Z1 _ (.d (.bool _)) _ r1 g1 st2 (Dq.bl _) q⟩
    rw [upd_ne (fun e => by subst e; rw [hp] at h3; cases h3)]
    exact h3
end
/-! ### a test that may raise -/
end L3
namespace L3
open PySem PySem.Spec PyProof.Rows L2
/-! ### a list of data, read -/
def asDs (t : T) (k : List PyData → Prop) : Prop := match t with
  | .d (.list l) => k l
  | .own _ l => alld l = true ∧ k (fzs l)
  | _ => False
theorem asDs_of {K : PySem.W.Frag} {G Z H : Hp} {ks : List T} {vs : List V} {r : Rho} {s : L2.St} {t : T} {v : V} {k : List PyData → Prop} (h : asDs t k) (st : S3 K G Z H ks vs r s) (p : Pv K Z r s t v) : ∃ a xs ds, v = .ref a ∧ SqL K H a xs ∧ DqAll K Z xs ds ∧ k ds := by
  unfold asDs at h
  split at h
  · cases (show Dq K Z v (.list _) from p) with
    | lst hs ha => exact ⟨_, _, _, rfl, SqL.of (st.zh _ _ hs), ha, h⟩
  · cases p.now st with
    | own e1 e2 =>
      refine ⟨_, _, _, rfl, SqL.of e1, ?_, h.2⟩
      have go : ∀ {l : List T} {xs : List V}, alld l = true → RTs K Z H l xs → DqAll K Z xs (fzs l) := by
        intro l
        induction l with
        | nil => intro xs _ q; cases q; exact .nil
        | cons t l ih =>
          intro xs hd q
          cases q with
          | cons q1 q2 =>
            cases t with
            | d y => cases q1 with | d d1 => exact .cons d1 (ih hd q2)
            | v _ => cases hd
            | sc _ _ => cases hd
            | own _ _ => cases hd
            | tp _ => cases hd
      exact go h.1 e2
  · exact h.elim
/-! ### min of a list of data that have a type of ours -/
def rMinA (α : Type) [DecidableEq α] [PySem.W.DatumOrd α] (K : PySem.W.Frag) : List V → Hp → VK → Prop := fun vs H Q => ∃ (a : Addr) (xs : List V) (y : α) (ys : List α), vs = [V.ref a] ∧ SqL K H a xs ∧ DpAll K H xs ((y :: ys).map PySem.W.Datum.toD) ∧
  ∀ (i : Nat) v, xs[i]? = some v → ((y :: ys).map PySem.W.Datum.toD)[i]? = some (PySem.W.Datum.toD (PySem.W.minOf y ys)) → Q v H
theorem readsAll_at {h : Heap} : ∀ {vs : List Value} {ds : List PyData} {as : List Addr} {i : Nat} {v : Value}, ReadsAll h vs ds as → vs[i]? = some v → ∃ d bs, ds[i]? = some d ∧ Reads h v d bs
  | _, _, _, 0, v, .cons r _, e => by cases e; exact ⟨_, _, rfl, r⟩
  | _, _, _, i + 1, v, .cons _ r, e => readsAll_at (i := i) r e
  | _, _, _, i, v, .nil, e => by cases e
theorem vals_at {xs : List V} {us : List Value} {i : Nat} {u : Value} (r : Vals xs us) (h : us[i]? = some u) : ∃ x, xs[i]? = some x ∧ RelV x u := by
  induction r generalizing i with
  | nil => cases h
  | cons r1 r2 ih =>
    cases i with
    | zero => cases h; exact ⟨_, rfl, r1⟩
    | succ i => exact ih h
theorem cr_minA {α : Type} [DecidableEq α] [PySem.W.DatumOrd α] {X : Cx} (hc : X.calm = true) (hu : X.A.units + 64 < cLine) (hd : PySem.W.Datum.depth α ≤ 40) : CallR X (.builtin "min") (rMinA α X.K) := by
  intro pins s σ H vs us Q I r h
  obtain ⟨a, xs, y, ys, rfl, hs, hx, q⟩ := h
  obtain ⟨its, rv, hl, _⟩ := I.list hs
  rw [Vals.ref1 r]
  obtain ⟨as, ra⟩ := Dp.readsAll I _ xs its hx rv
  refine PySem.W.min_list_datum (vs := its.toArray) (I.ok.hd hc) hl.isList (x := y) (xs := ys) ⟨as, by simpa using ra⟩ (by omega) fun i v h' tk hi hv hk => ?_
  have hi' : its[i]? = some v := by simpa using hi
  obtain ⟨x, ex, rx⟩ := vals_at rv hi'
  obtain ⟨d, bs, hd, rd⟩ := readsAll_at ra hi'
  obtain ⟨cs, rm⟩ := hv
  obtain ⟨e, _⟩ := PySem.Reads.unique (PyProof.Rows.Reads.keeps hk rd) _ _ rm
  rw [e] at hd
  exact ⟨x, H, I.kept hk, rx, q i x ex hd⟩
def cMinA (α : Type) [DecidableEq α] [PySem.W.DatumOrd α] : C1 := fun x r Q => asDs x fun l => ∃ (y : α) (ys : List α), l = (y :: ys).map PySem.W.Datum.toD ∧ PyData.canLayAll0 l = true ∧ Q (.d (PySem.W.Datum.toD (PySem.W.minOf y ys))) r
theorem dqa_dpa {K : PySem.W.Frag} {Z : Hp} : ∀ {ds : List PyData} {xs : List V}, PyData.canLayAll0 ds = true → DqAll K Z xs ds → DpAll K Z xs ds
  | [], _, _, h => by cases h; exact .nil
  | d :: ds, _, c, h => by
    cases h with
    | cons h1 h2 =>
      have c2 : (d.canLay0 && PyData.canLayAll0 ds) = true := by simpa [PyData.canLayAll0] using c
      rw [Bool.and_eq_true] at c2
      exact .cons (dq_dp _ _ c2.1 h1) (dqa_dpa c2.2 h2)
theorem dqa_at {K : PySem.W.Frag} {Z : Hp} : ∀ {ds : List PyData} {xs : List V} {i : Nat} {v : V} {d : PyData}, DqAll K Z xs ds → xs[i]? = some v → ds[i]? = some d → Dq K Z v d
  | _, _, 0, _, _, .cons h _, e1, e2 => by cases e1; cases e2; exact h
  | _, _, i + 1, _, _, .cons _ h, e1, e2 => dqa_at (i := i) h e1 e2
  | _, _, i, _, _, .nil, e1, _ => by cases e1
theorem con_minA {α : Type} [DecidableEq α] [PySem.W.DatumOrd α] {X : Cx} : Con1 X (rMinA α X.K) (cMinA α) := fun G Z H ks vs r s x tx Q Q3 st px hc k => by
  obtain ⟨a, xs, ds, rfl, hs, hd, y, ys, rfl, hl, q⟩ := asDs_of hc st px
  refine ⟨a, xs, y, ys, rfl, hs, dqa_dpa hl (dpa_mono st.zh _ _ hd), fun i v h1 h2 => k Z H (.d _) _ r (Gr.refl _ _) st (dqa_at hd h1 h2) q⟩
theorem r3_minA (α : Type) [DecidableEq α] [PySem.W.DatumOrd α] {X : Cx} {a : Expr} {ta : TE3} {p pos : Pos} (hc : X.calm = true) (hu : X.A.units + 64 < cLine) (hg : Gl X "min") (hm : X.mg "min" = none) (ha : R3 X a ta) (hd : PySem.W.Datum.depth α ≤ 40 := by decide) (he : starEach [a] X.env = (false, eval a X.env) :: starEach [] X.env := by rfl) (hpl : (backTo pos (starEach [] X.env)).any (·.1) = false := by rfl) :
    R3 X (.Call (.Name "min" p) [a] [] pos) (x1 (cMinA α) ta) := r3_callB (cr_minA hc hu hd) con_minA hg hm boot_min ha (by decide) (by decide) he hpl
/-! ### sorted of such a list -/
/-! ### all of a list of truths -/
/-! ### x[i][j] op= e, both lists of one's own -/
section
variable {X : Cx} {a b e : Expr} {ti tj te : TE3} {pos : Pos}
theorem get_listN : PGet X fun o i H Q => ∃ p xs k j v, o = .ref p ∧ i = .int k ∧ k = ((j : Nat) : Int) ∧ SqL X.K H p xs ∧ xs[j]? = some v ∧ Q v H := by
  intro pins s σ H o i ov iv Q I ro ri h
  obtain ⟨p, xs, k, j, v, rfl, rfl, rfl, hs, hv, q⟩ := h
  cases ro
  obtain ⟨t, rfl⟩ := ri
  obtain ⟨its, r, pl, hz⟩ := I.list hs
  obtain ⟨w, ew, rw'⟩ := r.get hv
  have hl := r.length
  have hn := line63
  have hj := (List.getElem?_eq_some_iff.mp hv).1
  exact wpAny_getItem_list (x := w) pl.isList (by omega) (by omega) (by simpa using ew) ⟨v, H, I, rw', q⟩
def xAugS2 (f : Int → Int → Int) (i : Nat) (ti tj te : TE3) : TS3 := fun D r => match r[i]? with
  | some (some (.own a l)) => ti r fun y r1 => asI y fun m => ∃ b l2, getI l m = some (.own b l2) ∧ r1 = r ∧ tj r fun z r2 => asI z fun n => r2 = r ∧ ∃ (n2 : Nat) (c : Int), n = (n2 : Nat) ∧ l2[n2]? = some (.d (.int c)) ∧ te r fun u r3 => asI u fun w => r3 = r ∧ ∃ l', setI l m (.own b (l2.set n2 (.d (.int (f c w))))) = some l' ∧ D.nx (r.set i (some (.own a l')))
  | _ => False
theorem m3_augS2 {op : Operator} {f : Int → Int → Int} (i : Nat) {x : Str} {p p2 tpos : Pos} (ho : PIp X op (ipI f)) (ha1 : R3 X a ti) (hb : R3 X b tj) (he : R3 X e te) (hs : PlainIx a := by intro _ _; rfl) (hN : X.N[i]? = some x := by rfl) (hv : Vis X.env.scope x := by first | exact Or.inl rfl | exact Or.inr (Or.inl rfl) | exact Or.inr (Or.inr rfl)) (hd : (x == ("__debug__" : Str)) = false := by decide)
    (hcd : (x == ("__classdict__" : Str)) = false := by decide)
    (ha : ∀ ov iv new, augStore b ov iv new = (do holding [new, ov, iv] (setItem ov iv new); release [new, ov, iv] []; pure .next) := by intros; rfl) :
    M3 X (.AugAssign (.Subscript (.Subscript (.Name x p) a p2) b tpos) op e pos) (xAugS2 f i ti tj te) := by
  refine ⟨fun W tk => ?_⟩
  obtain ⟨tei, ei, si⟩ := ha1.ex
  obtain ⟨tej, ej, sj⟩ := hb.ex
  obtain ⟨tee, ee, se⟩ := he.ex
  refine ⟨_, ps_augS (pe_ix ix_seq (pe_var hN hv hd hcd) ei hs) ej get_listN ee ho set_list ha, fun G Z H r s D D3 st ht im => ?_⟩
  unfold xAugS2 at ht
  split at ht
  · rename_i a0 l0 hr0
    obtain ⟨w, ew, _⟩ := st.slot i _ hr0
    refine ⟨w, ew, si G Z H [] [] r s _ _ st ht fun Z1 H1 y u r1 g1 st1 pv q0 => ?_⟩
    obtain ⟨m, rfl, q⟩ := asI_of q0
    clear q0
    cases pv.int
    obtain ⟨b0, l2, hg2, rfl, q⟩ := q
    obtain ⟨w2, ew2, rt0⟩ := st1.slot i _ hr0
    rw [ew] at ew2
    cases ew2
    cases rt0 with
    | @own _ _ xs0 e1 e2 =>
      obtain ⟨vb, eb, rb⟩ := rts_at e2 hg2
      cases rb with
      | @own _ _ ys0 f1 f2 =>
        refine .inl ⟨a0, xs0, m, .ref b0, rfl, rfl, SqL.of e1, eb, sj G Z1 H1 [] [] r1 s _ _ st1 q fun Z2 H2 z u2 r2 g2 st2 pv2 q2 => ?_⟩
        obtain ⟨n, rfl, q3⟩ := asI_of q2
        cases pv2.int
        obtain ⟨rfl, n2, c, rfl, hc, q4⟩ := q3
        obtain ⟨w3, ew3, rt3⟩ := st2.slot i _ hr0
        rw [ew] at ew3
        cases ew3
        cases rt3 with
        | @own _ _ xs k1 k2 =>
          obtain ⟨vb2, eb2, rb2⟩ := rts_at k2 hg2
          cases rb2 with
          | @own _ _ ys m1 m2 =>
            obtain ⟨vc, evc, rc⟩ := rts_get m2 hc
            cases rc with
            | d dc =>
              cases dc
              refine ⟨b0, ys, _, n2, _, rfl, rfl, rfl, SqL.of m1, evc, se G Z2 H2 [] [] r2 s _ _ st2 q4 fun Z3 H3 u3 u4 r3 g3 st3 pv3 q5 => ?_⟩
              obtain ⟨w4, rfl, q6⟩ := asI_of q5
              cases pv3.int
              obtain ⟨rfl, l', hl', q7⟩ := q6
              refine ⟨c, w4, rfl, rfl, ?_⟩
              obtain ⟨n4, en4, rfl, hn4⟩ := setI_of hl'
              obtain ⟨j5, en5, hj5⟩ := getI_set l0 m _ hg2
              rw [en4] at en5
              cases en5
              obtain ⟨w5, ew5, st4⟩ := st3.take hr0
              rw [ew] at ew5
              cases ew5
              have rt4 := st4.top
              cases rt4 with
              | @own _ _ xs5 k5 k6 =>
                obtain ⟨vb3, eb3, rb3⟩ := rts_get k6 hj5
                cases rb3 with
                | @own _ _ ys3 m5 m6 =>
                  have hln := rts_len m6
                  have hn2 : n2 < l2.length := (List.getElem?_eq_some_iff.mp hc).1
                  have st7 := (st4.pushD (Dq.int (f c w4))).write2 (i := n4) (m := l2) (m' := l2.set n2 (.d (.int (f c w4)))) (ys' := ys3.set n2 (.int (f c w4))) hj5 (rts_set n2 m6 (.d (Dq.int _))) (fun c2 => by have := cts_set c2 l2 n2 _ (.d (.int (f c w4))) hc; simp only [ct] at this; omega)
                  have st8 := st7.back (i := i) (by rw [List.length_set]; exact (List.getElem?_eq_some_iff.mp hr0).1) ew
                  rw [List.set_set] at st8
                  refine ⟨b0, ys3, _, n2, rfl, rfl, m5, ?_, im.nx _ _ _ _ ((g1.trans g2).trans g3) st8 q7⟩
                  unfold ixN
                  rw [if_pos (by omega), if_pos (by omega)]
                  rfl
  · exact ht.elim
/-! ### a list out of a list of lists, under a name of its own, and back -/
def xOut (j i : Nat) (te : TE3) : TS3 := fun D r => match r[i]? with
  | some (some (.own a l)) => te r fun y r1 => asI y fun m => r1 = r ∧ ∃ b l2, getI l m = some (.own b l2) ∧ ∃ l', setI l m (.v (.ref b)) = some l' ∧ D.nx ((r.set i (some (.own a l'))).set j (some (.own b l2)))
  | _ => False
theorem set_at {α : Type} {l : List α} {n : Nat} {x : α} (h : l[n]? = some x) : l.set n x = l := by
  obtain ⟨hlt, e3⟩ := List.getElem?_eq_some_iff.mp h
  rw [← e3]
  exact List.set_getElem_self hlt
theorem S3.pull {K : PySem.W.Frag} {G Z H : Hp} {ks : List T} {vs : List V} {r : Rho} {s : L2.St} {a b : Addr} {l m : List T} {n : Nat} (h : S3 K G Z H (.own a l :: ks) (.ref a :: vs) r s) (e : l[n]? = some (.own b m)) :
    S3 K G Z H (.own b m :: .own a (l.set n (.v (.ref b))) :: ks) (.ref b :: .ref a :: vs) r s := by
  have cs : ∀ c, cts c (l.set n (.v (.ref b))) + ct c (.own b m) = cts c l := fun c => by
    have := cts_set c l n _ (.v (.ref b)) e
    simp only [ct] at this ⊢
    omega
  have rt := h.top
  cases rt with
  | @own _ _ xs e1 e2 =>
    obtain ⟨v, ev, rv⟩ := rts_get e2 e
    cases rv with
    | @own _ _ ys f1 f2 =>
      have h2 := rts_set n e2 (RT.v (K := K) (Z := Z) (H := H) (x := V.ref b))
      rw [set_at ev] at h2
      refine ⟨h.zh, h.gh, fun c => ?_, fun c hc => h.ow c ?_, .cons (.own f1 f2) (.cons (.own e1 h2) h.pop.stk), h.slot, h.len⟩
      · have := h.one c
        have := cs c
        simp only [cts, ct] at *
        omega
      · have := cs c
        simp only [cts, ct] at *
        omega
theorem S3.putIn {K : PySem.W.Frag} {G Z H : Hp} {ks : List T} {vs : List V} {r : Rho} {s : L2.St} {a b : Addr} {l m : List T} {n : Nat} (h : S3 K G Z H (.own a l :: .own b m :: ks) (.ref a :: .ref b :: vs) r s) (e : l[n]? = some (.v (.ref b))) :
    S3 K G Z H (.own a (l.set n (.own b m)) :: ks) (.ref a :: vs) r s := by
  have cs : ∀ c, cts c (l.set n (.own b m)) = cts c l + ct c (.own b m) := fun c => by
    have := cts_set c l n _ (.own b m) e
    simp only [ct] at this ⊢
    omega
  have rt := h.top
  have rt2 := h.pop.top
  cases rt with
  | @own _ _ xs e1 e2 =>
    obtain ⟨v, ev, rv⟩ := rts_get e2 e
    cases rv
    cases rt2 with
    | @own _ _ ys f1 f2 =>
      have h2 := rts_set n e2 (RT.own (K := K) (Z := Z) (H := H) f1 f2)
      rw [set_at ev] at h2
      refine ⟨h.zh, h.gh, fun c => ?_, fun c hc => h.ow c ?_, .cons (.own e1 h2) h.pop.pop.stk, h.slot, h.len⟩
      · have := h.one c
        have := cs c
        simp only [cts, ct] at *
        omega
      · have := cs c
        simp only [cts, ct] at *
        omega
theorem m3_out (j i : Nat) {x y : Str} {p p' p2 : Pos} (ha1 : R3 X a ti) (hnd : X.N.Nodup) (hij : i ≠ j := by decide) (hs : PlainIx a := by intro _ _; rfl) (hN : X.N[i]? = some x := by rfl) (hv : Vis X.env.scope x := by first | exact Or.inl rfl | exact Or.inr (Or.inl rfl) | exact Or.inr (Or.inr rfl)) (hd : (x == ("__debug__" : Str)) = false := by decide)
    (hcd : (x == ("__classdict__" : Str)) = false := by decide) (hj : X.N[j]? = some y := by rfl) (hx : Loc X.env.scope y := by first | exact Or.inl rfl | exact Or.inr rfl) (hsw : swapsWith (.Subscript (.Name x p) a p2) (some (.Name y p')) pos.line X.env = pure false := by rfl) (hf : X.fn y = true ∨ X.env.scope.names.lookup y = some .local := by first | exact .inl rfl | exact .inr rfl | assumption) :
    M3 X (.Assign [.Name y p'] (.Subscript (.Name x p) a p2) pos) (xOut j i ti) := by
  refine ⟨fun W tk => ?_⟩
  obtain ⟨tei, ei, si⟩ := ha1.ex
  refine ⟨_, ps_set hnd hj hx (pe_ix ix_seq (pe_var hN hv hd hcd) ei hs) hsw hf, fun G Z H r s D D3 st ht im => ?_⟩
  unfold xOut at ht
  split at ht
  · rename_i a0 l0 hr0
    obtain ⟨w, ew, _⟩ := st.slot i _ hr0
    refine ⟨w, ew, si G Z H [] [] r s _ _ st ht fun Z1 H1 y u r1 g1 st1 pv q0 => ?_⟩
    obtain ⟨m, rfl, rfl, b0, l2, hg2, l', hl', q⟩ := asI_of q0
    cases pv.int
    obtain ⟨w2, ew2, st2⟩ := st1.take hr0
    rw [ew] at ew2
    cases ew2
    have rt0 := st2.top
    cases rt0 with
    | @own _ _ xs0 e1 e2 =>
      obtain ⟨vb, eb, rb⟩ := rts_at e2 hg2
      cases rb with
      | @own _ _ ys0 f1 f2 =>
        refine .inl ⟨a0, xs0, m, .ref b0, rfl, rfl, SqL.of e1, eb, ?_⟩
        obtain ⟨n4, en4, rfl, hn4⟩ := setI_of hl'
        obtain ⟨j5, en5, hj5⟩ := getI_set l0 m _ hg2
        rw [en4] at en5
        cases en5
        have st3 := (st2.pull hj5).store (i := j)
        have hi := (List.getElem?_eq_some_iff.mp hr0).1
        have st4 := st3.back (i := i) (by rw [List.length_set, List.length_set]; exact hi) (by rw [List.getElem?_set_ne (Ne.symm hij)]; exact ew)
        rw [List.set_comm _ _ (Ne.symm hij), List.set_set] at st4
        exact im.nx _ _ _ _ g1 st4 q
  · exact ht.elim
def xBack (i j : Nat) (t : TS3) : TS3 := fun D r => match r[i]?, r[j]? with
  | some (some (.own a l)), some (some (.own b m)) => ∃ n : Nat, l[n]? = some (.v (.ref b)) ∧ t D ((r.set i (some (.own a (l.set n (.own b m))))).set j (some (.v (.ref b))))
  | _, _ => False
theorem b3_back (i j : Nat) {sts : List Stmt} {t : TS3} (h : B3 X sts t) (hij : i ≠ j := by decide) : B3 X sts (xBack i j t) := by
  refine ⟨fun W tk => ?_⟩
  obtain ⟨te, ea, sa⟩ := h.ex W tk
  refine ⟨te, ea, fun G Z H r s D D3 st ht im => ?_⟩
  unfold xBack at ht
  split at ht
  · rename_i a l b m h1 h2
    obtain ⟨n, hn, ht⟩ := ht
    obtain ⟨w1, ew1, st1⟩ := st.take h2
    have rt1 := st1.top
    cases rt1 with
    | @own _ _ ys f1 f2 =>
      obtain ⟨w2, ew2, st2⟩ := st1.take (i := i) (t := .own a l) (by rw [List.getElem?_set_ne (Ne.symm hij)]; exact h1)
      have rt2 := st2.top
      cases rt2 with
      | @own _ _ xs e1 e2 =>
        have hi := (List.getElem?_eq_some_iff.mp h1).1
        have hj := (List.getElem?_eq_some_iff.mp h2).1
        have st3 := (st2.putIn hn).back (i := i) (by rw [List.length_set, List.length_set]; exact hi) ew2
        have st4 := (st3.push (t := .v (.ref b)) (v := .ref b) (fun _ => rfl) .v).back (i := j) (by rw [List.length_set, List.length_set, List.length_set]; exact hj) ew1
        rw [List.set_set, List.set_comm _ _ (Ne.symm hij), List.set_set] at st4
        exact sa G Z H _ s D D3 st4 ht im
  · exact ht.elim
end
end L3
namespace PySem
open Sem (wp)
/-! zip of four, by the cells -/
/-- a new tuple of 4 values -/
abbrev Tup4At (h : Heap) (T : Addr) (a1 a2 a3 a4 : Value) : Prop := h.get? T = some { cls := .type "tuple", data := .seq #[a1, a2, a3, a4] }
/-- the objects of a zip of 4 lie apart -/
structure Sep4 (zz TI TO i1 i2 i3 i4 : Addr) (fp1 fp2 fp3 fp4 : List Addr) : Prop where
  tz : TI ≠ zz
  oz : TO ≠ zz
  to : TI ≠ TO
  ti1 : TI ≠ i1
  mm1 : i1 ∈ fp1
  zf1 : zz ∉ fp1
  of1 : TO ∉ fp1
  ti2 : TI ≠ i2
  mm2 : i2 ∈ fp2
  zf2 : zz ∉ fp2
  of2 : TO ∉ fp2
  ti3 : TI ≠ i3
  mm3 : i3 ∈ fp3
  zf3 : zz ∉ fp3
  of3 : TO ∉ fp3
  ti4 : TI ≠ i4
  mm4 : i4 ∈ fp4
  zf4 : zz ∉ fp4
  of4 : TO ∉ fp4
  ap12 : i1 ∉ fp2
  ap13 : i1 ∉ fp3
  ap14 : i1 ∉ fp4
  ap21 : i2 ∉ fp1
  ap23 : i2 ∉ fp3
  ap24 : i2 ∉ fp4
  ap31 : i3 ∉ fp1
  ap32 : i3 ∉ fp2
  ap34 : i3 ∉ fp4
  ap41 : i4 ∉ fp1
  ap42 : i4 ∉ fp2
  ap43 : i4 ∉ fp3
section
variable {prog : Program} {w : World} {A : Around} {E : Value → Shared → Prop} {s : Shared} {zz TI TO i1 i2 i3 i4 : Addr} {fp1 fp2 fp3 fp4 : List Addr} {n1 n2 n3 n4 i : Nat} {P1 P2 P3 P4 : Nat → Value → Prop} {St1 St2 St3 St4 : Nat → Heap → Prop} {a1 a2 a3 a4 : Value}
theorem Sep4.zi1 (D : Sep4 zz TI TO i1 i2 i3 i4 fp1 fp2 fp3 fp4) : zz ≠ i1 := fun e => D.zf1 (e ▸ D.mm1)
theorem Sep4.oi1 (D : Sep4 zz TI TO i1 i2 i3 i4 fp1 fp2 fp3 fp4) : TO ≠ i1 := fun e => D.of1 (e ▸ D.mm1)
theorem Sep4.zi2 (D : Sep4 zz TI TO i1 i2 i3 i4 fp1 fp2 fp3 fp4) : zz ≠ i2 := fun e => D.zf2 (e ▸ D.mm2)
theorem Sep4.oi2 (D : Sep4 zz TI TO i1 i2 i3 i4 fp1 fp2 fp3 fp4) : TO ≠ i2 := fun e => D.of2 (e ▸ D.mm2)
theorem Sep4.zi3 (D : Sep4 zz TI TO i1 i2 i3 i4 fp1 fp2 fp3 fp4) : zz ≠ i3 := fun e => D.zf3 (e ▸ D.mm3)
theorem Sep4.oi3 (D : Sep4 zz TI TO i1 i2 i3 i4 fp1 fp2 fp3 fp4) : TO ≠ i3 := fun e => D.of3 (e ▸ D.mm3)
theorem Sep4.zi4 (D : Sep4 zz TI TO i1 i2 i3 i4 fp1 fp2 fp3 fp4) : zz ≠ i4 := fun e => D.zf4 (e ▸ D.mm4)
theorem Sep4.oi4 (D : Sep4 zz TI TO i1 i2 i3 i4 fp1 fp2 fp3 fp4) : TO ≠ i4 := fun e => D.of4 (e ▸ D.mm4)
theorem put_in4 {T : Addr} {x : Value} {k : Nat} {Q : Unit → Shared → Prop} (hT : Tup4At s.heap T a1 a2 a3 a4)
    (h : ∀ h2, h2.get? T = some { cls := .type "tuple", data := .seq ((#[a1, a2, a3, a4] : Array Value).setIfInBounds k x) } → Heap.SameBut T s.heap h2 → Q () { s with heap := h2 }) :
    wpAny (model prog w) A (updateSeq T (·.setIfInBounds k x)) Q E s :=
  wpAny_updateSeq hT rfl (h _ (by rw [Heap.get?_update_self _ hT rfl]; simp [Obj.mapSeq]) (Heap.SameBut.update ..))
theorem zip4_item {Q : Value → Shared → Prop} (S : Sep4 zz TI TO i1 i2 i3 i4 fp1 fp2 fp3 fp4) (D1 : Draws prog w A i1 fp1 n1 P1 St1) (D2 : Draws prog w A i2 fp2 n2 P2 St2) (D3 : Draws prog w A i3 fp3 n3 P3 St3) (D4 : Draws prog w A i4 fp4 n4 P4 St4)
    (hZ : IsZip s.heap zz TI TO .none) (hI : Tup4At s.heap TI (.ref i1) (.ref i2) (.ref i3) (.ref i4)) (hO : Tup4At s.heap TO a1 a2 a3 a4) (u1 : St1 i s.heap) (u2 : St2 i s.heap) (u3 : St3 i s.heap) (u4 : St4 i s.heap) (l1 : i < n1) (l2 : i < n2) (l3 : i < n3) (l4 : i < n4)
    (hQ : ∀ x1 x2 x3 x4 h2 tk, P1 i x1 → P2 i x2 → P3 i x3 → P4 i x4 → IsZip h2 zz TI TO (rawInt s.heap.objs.size) → Tup4At h2 TO x1 x2 x3 x4 → St1 (i + 1) h2 → St2 (i + 1) h2 → St3 (i + 1) h2 → St4 (i + 1) h2 → Tup4At h2 s.heap.objs.size x1 x2 x3 x4 → h2.objs.size = s.heap.objs.size + 1 → (∀ c o, c ≠ zz → c ≠ TO → c ≠ i1 → c ≠ i2 → c ≠ i3 → c ≠ i4 → s.heap.get? c = some o → h2.get? c = some o) → Q (.ref s.heap.objs.size) { s with heap := h2, toks := tk }) :
    wpAny (model prog w) A (Builtin.«zip.__next__» ⟨[.ref zz], []⟩) (fun fin s2 => ∃ v, fin = .done (.ret v) ∧ Q v s2) E s := by
  obtain ⟨hp, gg, dd, tk0, oo⟩ := s
  show wpAny _ _ (field (.ref zz) 2 >>= _) _ _ _
  refine wpAny_bind (wpAny_field hZ rfl (x := .bool false) rfl ?_)
  show wpAny _ _ (field (.ref zz) 3 >>= _) _ _ _
  refine wpAny_bind (wpAny_field hZ rfl (x := .ref TI) rfl (wpAny_bind (wpAny_seqItems hI rfl ?_)))
  show wpAny _ _ (Builtin.SmallTypes.ownedTupleIsFree (.ref zz) >>= _) _ _ _
  refine wpAny_bind ?_; unfold Builtin.SmallTypes.ownedTupleIsFree; refine wpAny_bind (wpAny_field hZ rfl (x := .none) rfl (wpAny_pure ?_)); simp only [if_true]; refine wpAny_bind (wpAny_rule ?_)
  refine wpAny_bind (wpAny_field hZ rfl (x := .ref TO) rfl (wpAny_bind (wpAny_setField_rec hZ (by simp) fun g0 kz0 ks0 => ?_)))
  replace kz0 : IsZip g0 zz TI TO .ellipsis := kz0
  replace ks0 : Heap.SameBut zz hp g0 := ks0
  refine wpAny_bind ?_
  simp only [List.zipIdx_cons, List.zipIdx_nil, List.forIn_cons, List.forIn_nil]; skip
  refine wpAny_bind (wpAny_bind (wpAny_onRaise (?_)))
  show wpAny _ _ (Builtin.SmallTypes.nextOf (.ref i1) >>= _) _ _ ⟨g0, gg, dd, tk0, oo⟩
  refine wpAny_bind (D1.item i _ _ _ l1 (D1.over u1 ks0 S.zf1) fun x1 p1 tk1 w1 v1 kp1 => wpAny_pure ?_)
  replace kp1 : Heap.SameBut i1 g0 p1 := kp1
  have kU1 : Tup4At p1 TO a1 a2 a3 a4 := kp1.extBut _ _ S.oi1 (ks0.extBut _ _ S.oz hO)
  refine wpAny_bind (wpAny_seqItems (s := ⟨p1, gg, dd, tk1, oo⟩) kU1 rfl (wpAny_bind (put_in4 (s := ⟨p1, gg, dd, tk1, oo⟩) kU1 fun g1 kT1 ks1 => ?_)))
  replace kT1 : Tup4At g1 TO x1 a2 a3 a4 := kT1
  replace ks1 : Heap.SameBut TO p1 g1 := ks1
  refine wpAny_bind (wpAny_letGo (wpAny_pure (?_)))
  refine wpAny_bind (wpAny_bind (wpAny_onRaise (?_)))
  show wpAny _ _ (Builtin.SmallTypes.nextOf (.ref i2) >>= _) _ _ ⟨g1, gg, dd, tk1, oo⟩
  refine wpAny_bind (D2.item i _ _ _ l2 (D2.over (D2.over (D2.over u2 ks0 S.zf2) kp1 S.ap12) ks1 S.of2) fun x2 p2 tk2 w2 v2 kp2 => wpAny_pure ?_)
  replace kp2 : Heap.SameBut i2 g1 p2 := kp2
  have kU2 : Tup4At p2 TO x1 a2 a3 a4 := kp2.extBut _ _ S.oi2 kT1
  refine wpAny_bind (wpAny_seqItems (s := ⟨p2, gg, dd, tk2, oo⟩) kU2 rfl (wpAny_bind (put_in4 (s := ⟨p2, gg, dd, tk2, oo⟩) kU2 fun g2 kT2 ks2 => ?_)))
  replace kT2 : Tup4At g2 TO x1 x2 a3 a4 := kT2
  replace ks2 : Heap.SameBut TO p2 g2 := ks2
  refine wpAny_bind (wpAny_letGo (wpAny_pure (?_)))
  refine wpAny_bind (wpAny_bind (wpAny_onRaise (?_)))
  show wpAny _ _ (Builtin.SmallTypes.nextOf (.ref i3) >>= _) _ _ ⟨g2, gg, dd, tk2, oo⟩
  refine wpAny_bind (D3.item i _ _ _ l3 (D3.over (D3.over (D3.over (D3.over (D3.over u3 ks0 S.zf3) kp1 S.ap13) ks1 S.of3) kp2 S.ap23) ks2 S.of3) fun x3 p3 tk3 w3 v3 kp3 => wpAny_pure ?_)
  replace kp3 : Heap.SameBut i3 g2 p3 := kp3
  have kU3 : Tup4At p3 TO x1 x2 a3 a4 := kp3.extBut _ _ S.oi3 kT2
  refine wpAny_bind (wpAny_seqItems (s := ⟨p3, gg, dd, tk3, oo⟩) kU3 rfl (wpAny_bind (put_in4 (s := ⟨p3, gg, dd, tk3, oo⟩) kU3 fun g3 kT3 ks3 => ?_)))
  replace kT3 : Tup4At g3 TO x1 x2 x3 a4 := kT3
  replace ks3 : Heap.SameBut TO p3 g3 := ks3
  refine wpAny_bind (wpAny_letGo (wpAny_pure (?_)))
  refine wpAny_bind (wpAny_bind (wpAny_onRaise (?_)))
  show wpAny _ _ (Builtin.SmallTypes.nextOf (.ref i4) >>= _) _ _ ⟨g3, gg, dd, tk3, oo⟩
  refine wpAny_bind (D4.item i _ _ _ l4 (D4.over (D4.over (D4.over (D4.over (D4.over (D4.over (D4.over u4 ks0 S.zf4) kp1 S.ap14) ks1 S.of4) kp2 S.ap24) ks2 S.of4) kp3 S.ap34) ks3 S.of4) fun x4 p4 tk4 w4 v4 kp4 => wpAny_pure ?_)
  replace kp4 : Heap.SameBut i4 g3 p4 := kp4
  have kU4 : Tup4At p4 TO x1 x2 x3 a4 := kp4.extBut _ _ S.oi4 kT3
  refine wpAny_bind (wpAny_seqItems (s := ⟨p4, gg, dd, tk4, oo⟩) kU4 rfl (wpAny_bind (put_in4 (s := ⟨p4, gg, dd, tk4, oo⟩) kU4 fun g4 kT4 ks4 => ?_)))
  replace kT4 : Tup4At g4 TO x1 x2 x3 x4 := kT4
  replace ks4 : Heap.SameBut TO p4 g4 := ks4
  refine wpAny_bind (wpAny_letGo (wpAny_pure (wpAny_pure (?_))))
  refine wpAny_bind (wpAny_seqItems (s := ⟨g4, gg, dd, tk4, oo⟩) kT4 rfl (wpAny_bind (wpAny_newTuple ?_)))
  have hsz : g4.objs.size = hp.objs.size := by rw [ks4.1, kp4.1, ks3.1, kp3.1, ks2.1, kp2.1, ks1.1, kp1.1, ks0.1]
  have kzz : IsZip g4 zz TI TO .ellipsis := (ks4.extBut _ _ S.oz.symm (kp4.extBut _ _ S.zi4 (ks3.extBut _ _ S.oz.symm (kp3.extBut _ _ S.zi3 (ks2.extBut _ _ S.oz.symm (kp2.extBut _ _ S.zi2 (ks1.extBut _ _ S.oz.symm (kp1.extBut _ _ S.zi1 kz0))))))))
  have kk : ∀ c o, c ≠ zz → c ≠ TO → c ≠ i1 → c ≠ i2 → c ≠ i3 → c ≠ i4 → hp.get? c = some o → g4.get? c = some o := fun c o cz cT c1 c2 c3 c4 e => (ks4.extBut _ _ cT (kp4.extBut _ _ c4 (ks3.extBut _ _ cT (kp3.extBut _ _ c3 (ks2.extBut _ _ cT (kp2.extBut _ _ c2 (ks1.extBut _ _ cT (kp1.extBut _ _ c1 (ks0.extBut _ _ cz e)))))))))
  have y1 : St1 (i + 1) g4 := (D1.over (D1.over (D1.over (D1.over (D1.over (D1.over (D1.over v1 ks1 S.of1) kp2 S.ap21) ks2 S.of1) kp3 S.ap31) ks3 S.of1) kp4 S.ap41) ks4 S.of1)
  have y2 : St2 (i + 1) g4 := (D2.over (D2.over (D2.over (D2.over (D2.over v2 ks2 S.of2) kp3 S.ap32) ks3 S.of2) kp4 S.ap42) ks4 S.of2)
  have y3 : St3 (i + 1) g4 := (D3.over (D3.over (D3.over v3 ks3 S.of3) kp4 S.ap43) ks4 S.of3)
  have y4 : St4 (i + 1) g4 := (D4.over v4 ks4 S.of4)
  have zlt : zz < g4.objs.size := Heap.lt_size kzz
  show wpAny _ _ (Builtin.SmallTypes.ownedTupleHandOut (.ref zz) (.ref g4.objs.size) >>= _) _ _ ⟨g4.push { cls := .type "tuple", data := .seq #[x1, x2, x3, x4] }, gg, dd, tk4, oo⟩
  have kz6 : IsZip (g4.push { cls := .type "tuple", data := .seq #[x1, x2, x3, x4] }) zz TI TO .ellipsis := Heap.get?_push_of_some _ kzz
  refine wpAny_bind ?_; unfold Builtin.SmallTypes.ownedTupleHandOut; refine wpAny_bind (wpAny_setField_rec kz6 (by simp) fun h7 kz7 ks7 => wpAny_setField_rec (show IsZip h7 zz TI TO (rawInt g4.objs.size) from kz7) (by simp) fun h8 kz8 ks8 => ?_)
  replace kz8 : IsZip h8 zz TI TO (rawInt g4.objs.size) := kz8
  replace ks7 : Heap.SameBut zz (g4.push { cls := .type "tuple", data := .seq #[x1, x2, x3, x4] }) h7 := ks7
  replace ks8 : Heap.SameBut zz h7 h8 := ks8
  have up : ∀ c o, c ≠ zz → g4.get? c = some o → h8.get? c = some o := fun c o cz e => ks8.extBut _ _ cz (ks7.extBut _ _ cz (Heap.get?_push_of_some _ e))
  have kT8 : Tup4At h8 g4.objs.size x1 x2 x3 x4 := ks8.extBut _ _ (Nat.ne_of_gt zlt) (ks7.extBut _ _ (Nat.ne_of_gt zlt) (Heap.get?_push_size _ rfl))
  have kn8 : h8.objs.size = g4.objs.size + 1 := by rw [ks8.1, ks7.1, Heap.size_push]
  rw [hsz] at kz8 kT8 kn8
  refine wpAny_pure ⟨_, rfl, (?_)⟩
  show Q (.ref g4.objs.size) ⟨h8, gg, dd, tk4, oo⟩
  rw [hsz]
  exact hQ x1 x2 x3 x4 h8 tk4 w1 w2 w3 w4 kz8 (up _ _ S.oz kT4) (D1.frame _ _ _ y1 fun b hb o e => up b o (fun q => S.zf1 (q ▸ hb)) e) (D2.frame _ _ _ y2 fun b hb o e => up b o (fun q => S.zf2 (q ▸ hb)) e) (D3.frame _ _ _ y3 fun b hb o e => up b o (fun q => S.zf3 (q ▸ hb)) e) (D4.frame _ _ _ y4 fun b hb o e => up b o (fun q => S.zf4 (q ▸ hb)) e) kT8 kn8 fun c o cz cT c1 c2 c3 c4 e => up c o cz (kk c o cz cT c1 c2 c3 c4 e)
theorem zip4_end {Q : Fin → Shared → Prop} (S : Sep4 zz TI TO i1 i2 i3 i4 fp1 fp2 fp3 fp4) (D1 : Draws prog w A i1 fp1 n1 P1 St1) (D2 : Draws prog w A i2 fp2 n2 P2 St2) (D3 : Draws prog w A i3 fp3 n3 P3 St3) (D4 : Draws prog w A i4 fp4 n4 P4 St4)
    (hZ : IsZip s.heap zz TI TO .none) (hI : Tup4At s.heap TI (.ref i1) (.ref i2) (.ref i3) (.ref i4)) (hO : Tup4At s.heap TO a1 a2 a3 a4) (u1 : St1 i s.heap) (u2 : St2 i s.heap) (u3 : St3 i s.heap) (u4 : St4 i s.heap) (m1 : i ≤ n1) (m2 : i ≤ n2) (m3 : i ≤ n3) (m4 : i ≤ n4) (hend : i = n1 ∨ i = n2 ∨ i = n3 ∨ i = n4)
    (hE : ∀ h2 tk e, (∀ c o, c ≠ zz → c ≠ TO → c ≠ i1 → c ≠ i2 → c ≠ i3 → c ≠ i4 → s.heap.get? c = some o → h2.get? c = some o) → (∃ o, h2.get? e = some o ∧ o.cls = .type "StopIteration") → E (.ref e) { s with heap := h2, toks := tk }) :
    wpAny (model prog w) A (Builtin.«zip.__next__» ⟨[.ref zz], []⟩) Q E s := by
  obtain ⟨hp, gg, dd, tk0, oo⟩ := s
  show wpAny _ _ (field (.ref zz) 2 >>= _) _ _ _
  refine wpAny_bind (wpAny_field hZ rfl (x := .bool false) rfl ?_)
  show wpAny _ _ (field (.ref zz) 3 >>= _) _ _ _
  refine wpAny_bind (wpAny_field hZ rfl (x := .ref TI) rfl (wpAny_bind (wpAny_seqItems hI rfl ?_)))
  show wpAny _ _ (Builtin.SmallTypes.ownedTupleIsFree (.ref zz) >>= _) _ _ _
  refine wpAny_bind ?_; unfold Builtin.SmallTypes.ownedTupleIsFree; refine wpAny_bind (wpAny_field hZ rfl (x := .none) rfl (wpAny_pure ?_)); simp only [if_true]; refine wpAny_bind (wpAny_rule ?_)
  refine wpAny_bind (wpAny_field hZ rfl (x := .ref TO) rfl (wpAny_bind (wpAny_setField_rec hZ (by simp) fun g0 kz0 ks0 => ?_)))
  replace kz0 : IsZip g0 zz TI TO .ellipsis := kz0
  replace ks0 : Heap.SameBut zz hp g0 := ks0
  refine wpAny_bind ?_
  simp only [List.zipIdx_cons, List.zipIdx_nil, List.forIn_cons, List.forIn_nil]; skip
  refine wpAny_bind (wpAny_bind (wpAny_onRaise (?_)))
  show wpAny _ _ (Builtin.SmallTypes.nextOf (.ref i1) >>= _) _ _ ⟨g0, gg, dd, tk0, oo⟩
  by_cases l1 : i < n1
  · refine wpAny_bind (D1.item i _ _ _ l1 (D1.over u1 ks0 S.zf1) fun x1 p1 tk1 w1 v1 kp1 => wpAny_pure ?_)
    replace kp1 : Heap.SameBut i1 g0 p1 := kp1
    have kU1 : Tup4At p1 TO a1 a2 a3 a4 := kp1.extBut _ _ S.oi1 (ks0.extBut _ _ S.oz hO)
    refine wpAny_bind (wpAny_seqItems (s := ⟨p1, gg, dd, tk1, oo⟩) kU1 rfl (wpAny_bind (put_in4 (s := ⟨p1, gg, dd, tk1, oo⟩) kU1 fun g1 kT1 ks1 => ?_)))
    replace kT1 : Tup4At g1 TO x1 a2 a3 a4 := kT1
    replace ks1 : Heap.SameBut TO p1 g1 := ks1
    refine wpAny_bind (wpAny_letGo (wpAny_pure (?_)))
    refine wpAny_bind (wpAny_bind (wpAny_onRaise (?_)))
    show wpAny _ _ (Builtin.SmallTypes.nextOf (.ref i2) >>= _) _ _ ⟨g1, gg, dd, tk1, oo⟩
    by_cases l2 : i < n2
    · refine wpAny_bind (D2.item i _ _ _ l2 (D2.over (D2.over (D2.over u2 ks0 S.zf2) kp1 S.ap12) ks1 S.of2) fun x2 p2 tk2 w2 v2 kp2 => wpAny_pure ?_)
      replace kp2 : Heap.SameBut i2 g1 p2 := kp2
      have kU2 : Tup4At p2 TO x1 a2 a3 a4 := kp2.extBut _ _ S.oi2 kT1
      refine wpAny_bind (wpAny_seqItems (s := ⟨p2, gg, dd, tk2, oo⟩) kU2 rfl (wpAny_bind (put_in4 (s := ⟨p2, gg, dd, tk2, oo⟩) kU2 fun g2 kT2 ks2 => ?_)))
      replace kT2 : Tup4At g2 TO x1 x2 a3 a4 := kT2
      replace ks2 : Heap.SameBut TO p2 g2 := ks2
      refine wpAny_bind (wpAny_letGo (wpAny_pure (?_)))
      refine wpAny_bind (wpAny_bind (wpAny_onRaise (?_)))
      show wpAny _ _ (Builtin.SmallTypes.nextOf (.ref i3) >>= _) _ _ ⟨g2, gg, dd, tk2, oo⟩
      by_cases l3 : i < n3
      · refine wpAny_bind (D3.item i _ _ _ l3 (D3.over (D3.over (D3.over (D3.over (D3.over u3 ks0 S.zf3) kp1 S.ap13) ks1 S.of3) kp2 S.ap23) ks2 S.of3) fun x3 p3 tk3 w3 v3 kp3 => wpAny_pure ?_)
        replace kp3 : Heap.SameBut i3 g2 p3 := kp3
        have kU3 : Tup4At p3 TO x1 x2 a3 a4 := kp3.extBut _ _ S.oi3 kT2
        refine wpAny_bind (wpAny_seqItems (s := ⟨p3, gg, dd, tk3, oo⟩) kU3 rfl (wpAny_bind (put_in4 (s := ⟨p3, gg, dd, tk3, oo⟩) kU3 fun g3 kT3 ks3 => ?_)))
        replace kT3 : Tup4At g3 TO x1 x2 x3 a4 := kT3
        replace ks3 : Heap.SameBut TO p3 g3 := ks3
        refine wpAny_bind (wpAny_letGo (wpAny_pure (?_)))
        refine wpAny_bind (wpAny_bind (wpAny_onRaise (?_)))
        show wpAny _ _ (Builtin.SmallTypes.nextOf (.ref i4) >>= _) _ _ ⟨g3, gg, dd, tk3, oo⟩
        have j4 : i = n4 := by omega
        refine wpAny_bind (D4.done ⟨g3, gg, dd, tk3, oo⟩ _ _ (by rw [← j4]; exact (D4.over (D4.over (D4.over (D4.over (D4.over (D4.over (D4.over u4 ks0 S.zf4) kp1 S.ap14) ks1 S.of4) kp2 S.ap24) ks2 S.of4) kp3 S.ap34) ks3 S.of4)) fun q e kq ke => ?_)
        replace kq : Heap.ExtBut i4 g3 q := kq
        obtain ⟨oe, koe, kce⟩ := ke
        replace koe : q.get? e = some oe := koe
        have kzq : IsZip q zz TI TO .ellipsis := kq _ _ S.zi4 (ks3.extBut _ _ S.oz.symm (kp3.extBut _ _ S.zi3 (ks2.extBut _ _ S.oz.symm (kp2.extBut _ _ S.zi2 (ks1.extBut _ _ S.oz.symm (kp1.extBut _ _ S.zi1 kz0))))))
        have kez : e ≠ zz := fun x => by subst x; rw [kzq] at koe; cases koe; simp at kce
        refine wpAny_setField_rec (s := ⟨q, gg, dd, tk3, oo⟩) kzq (by simp) fun q2 _ kq2 => ?_
        replace kq2 : Heap.SameBut zz q q2 := kq2
        exact hE q2 tk3 e (fun c o cz cT c1 c2 c3 c4 x => kq2.extBut _ _ cz (kq _ _ c4 (ks3.extBut _ _ cT (kp3.extBut _ _ c3 (ks2.extBut _ _ cT (kp2.extBut _ _ c2 (ks1.extBut _ _ cT (kp1.extBut _ _ c1 (ks0.extBut _ _ cz x))))))))) ⟨oe, kq2.extBut _ _ kez koe, kce⟩
      · have j3 : i = n3 := by omega
        refine wpAny_bind (D3.done ⟨g2, gg, dd, tk2, oo⟩ _ _ (by rw [← j3]; exact (D3.over (D3.over (D3.over (D3.over (D3.over u3 ks0 S.zf3) kp1 S.ap13) ks1 S.of3) kp2 S.ap23) ks2 S.of3)) fun q e kq ke => ?_)
        replace kq : Heap.ExtBut i3 g2 q := kq
        obtain ⟨oe, koe, kce⟩ := ke
        replace koe : q.get? e = some oe := koe
        have kzq : IsZip q zz TI TO .ellipsis := kq _ _ S.zi3 (ks2.extBut _ _ S.oz.symm (kp2.extBut _ _ S.zi2 (ks1.extBut _ _ S.oz.symm (kp1.extBut _ _ S.zi1 kz0))))
        have kez : e ≠ zz := fun x => by subst x; rw [kzq] at koe; cases koe; simp at kce
        refine wpAny_setField_rec (s := ⟨q, gg, dd, tk2, oo⟩) kzq (by simp) fun q2 _ kq2 => ?_
        replace kq2 : Heap.SameBut zz q q2 := kq2
        exact hE q2 tk2 e (fun c o cz cT c1 c2 c3 c4 x => kq2.extBut _ _ cz (kq _ _ c3 (ks2.extBut _ _ cT (kp2.extBut _ _ c2 (ks1.extBut _ _ cT (kp1.extBut _ _ c1 (ks0.extBut _ _ cz x))))))) ⟨oe, kq2.extBut _ _ kez koe, kce⟩
    · have j2 : i = n2 := by omega
      refine wpAny_bind (D2.done ⟨g1, gg, dd, tk1, oo⟩ _ _ (by rw [← j2]; exact (D2.over (D2.over (D2.over u2 ks0 S.zf2) kp1 S.ap12) ks1 S.of2)) fun q e kq ke => ?_)
      replace kq : Heap.ExtBut i2 g1 q := kq
      obtain ⟨oe, koe, kce⟩ := ke
      replace koe : q.get? e = some oe := koe
      have kzq : IsZip q zz TI TO .ellipsis := kq _ _ S.zi2 (ks1.extBut _ _ S.oz.symm (kp1.extBut _ _ S.zi1 kz0))
      have kez : e ≠ zz := fun x => by subst x; rw [kzq] at koe; cases koe; simp at kce
      refine wpAny_setField_rec (s := ⟨q, gg, dd, tk1, oo⟩) kzq (by simp) fun q2 _ kq2 => ?_
      replace kq2 : Heap.SameBut zz q q2 := kq2
      exact hE q2 tk1 e (fun c o cz cT c1 c2 c3 c4 x => kq2.extBut _ _ cz (kq _ _ c2 (ks1.extBut _ _ cT (kp1.extBut _ _ c1 (ks0.extBut _ _ cz x))))) ⟨oe, kq2.extBut _ _ kez koe, kce⟩
  · have j1 : i = n1 := by omega
    refine wpAny_bind (D1.done ⟨g0, gg, dd, tk0, oo⟩ _ _ (by rw [← j1]; exact (D1.over u1 ks0 S.zf1)) fun q e kq ke => ?_)
    replace kq : Heap.ExtBut i1 g0 q := kq
    obtain ⟨oe, koe, kce⟩ := ke
    replace koe : q.get? e = some oe := koe
    have kzq : IsZip q zz TI TO .ellipsis := kq _ _ S.zi1 kz0
    have kez : e ≠ zz := fun x => by subst x; rw [kzq] at koe; cases koe; simp at kce
    refine wpAny_setField_rec (s := ⟨q, gg, dd, tk0, oo⟩) kzq (by simp) fun q2 _ kq2 => ?_
    replace kq2 : Heap.SameBut zz q q2 := kq2
    exact hE q2 tk0 e (fun c o cz cT c1 c2 c3 c4 x => kq2.extBut _ _ cz (kq _ _ c1 (ks0.extBut _ _ cz x))) ⟨oe, kq2.extBut _ _ kez koe, kce⟩
theorem zip4_next {Q : Option Value → Shared → Prop} (S : Sep4 zz TI TO i1 i2 i3 i4 fp1 fp2 fp3 fp4) (D1 : Draws prog w A.in1 i1 fp1 n1 P1 St1) (D2 : Draws prog w A.in1 i2 fp2 n2 P2 St2) (D3 : Draws prog w A.in1 i3 fp3 n3 P3 St3) (D4 : Draws prog w A.in1 i4 fp4 n4 P4 St4)
    (hZ : IsZip s.heap zz TI TO .none) (hI : Tup4At s.heap TI (.ref i1) (.ref i2) (.ref i3) (.ref i4)) (hO : Tup4At s.heap TO a1 a2 a3 a4) (u1 : St1 i s.heap) (u2 : St2 i s.heap) (u3 : St3 i s.heap) (u4 : St4 i s.heap) (l1 : i < n1) (l2 : i < n2) (l3 : i < n3) (l4 : i < n4)
    (hQ : ∀ x1 x2 x3 x4 h2 tk, P1 i x1 → P2 i x2 → P3 i x3 → P4 i x4 → IsZip h2 zz TI TO (rawInt s.heap.objs.size) → Tup4At h2 TO x1 x2 x3 x4 → St1 (i + 1) h2 → St2 (i + 1) h2 → St3 (i + 1) h2 → St4 (i + 1) h2 → Tup4At h2 s.heap.objs.size x1 x2 x3 x4 → h2.objs.size = s.heap.objs.size + 1 → (∀ c o, c ≠ zz → c ≠ TO → c ≠ i1 → c ≠ i2 → c ≠ i3 → c ≠ i4 → s.heap.get? c = some o → h2.get? c = some o) → Q (some (.ref s.heap.objs.size)) { s with heap := h2, toks := tk }) : wpAny (model prog w) A (pyNext (.ref zz)) Q E s := by
  have kT : s.TypeIs (.ref zz) "zip" := ⟨_, hZ, rfl⟩
  unfold pyNext; exact wpAny_bind (wpAny_attempt (wpAny_callSpecial?_slot (name := Str.ofString "__next__") kT F.slot_zip_next (wpAny_call_entry F.slot_zip_next kT F.entry_zip_next (zip4_item S D1 D2 D3 D4 hZ hI hO u1 u2 u3 u4 l1 l2 l3 l4 fun x1 x2 x3 x4 h2 tk y1 y2 y3 y4 b1 b2 d1 d2 d3 d4 b3 b4 b5 => wpAny_pure (hQ x1 x2 x3 x4 h2 tk y1 y2 y3 y4 b1 b2 d1 d2 d3 d4 b3 b4 b5)) (F.args_zip_next_1 _))))
theorem zip4_stop {Q : Option Value → Shared → Prop} (S : Sep4 zz TI TO i1 i2 i3 i4 fp1 fp2 fp3 fp4) (D1 : Draws prog w A.in1 i1 fp1 n1 P1 St1) (D2 : Draws prog w A.in1 i2 fp2 n2 P2 St2) (D3 : Draws prog w A.in1 i3 fp3 n3 P3 St3) (D4 : Draws prog w A.in1 i4 fp4 n4 P4 St4)
    (hZ : IsZip s.heap zz TI TO .none) (hI : Tup4At s.heap TI (.ref i1) (.ref i2) (.ref i3) (.ref i4)) (hO : Tup4At s.heap TO a1 a2 a3 a4) (u1 : St1 i s.heap) (u2 : St2 i s.heap) (u3 : St3 i s.heap) (u4 : St4 i s.heap) (m1 : i ≤ n1) (m2 : i ≤ n2) (m3 : i ≤ n3) (m4 : i ≤ n4) (hend : i = n1 ∨ i = n2 ∨ i = n3 ∨ i = n4)
    (hQ : ∀ h2 tk, (∀ c o, c ≠ zz → c ≠ TO → c ≠ i1 → c ≠ i2 → c ≠ i3 → c ≠ i4 → s.heap.get? c = some o → h2.get? c = some o) → Q none { s with heap := h2, toks := tk }) : wpAny (model prog w) A (pyNext (.ref zz)) Q E s := by
  have kT : s.TypeIs (.ref zz) "zip" := ⟨_, hZ, rfl⟩
  unfold pyNext; refine wpAny_bind (wpAny_attempt (wpAny_callSpecial?_slot (name := Str.ofString "__next__") kT F.slot_zip_next (wpAny_call_entry F.slot_zip_next kT F.entry_zip_next (zip4_end S D1 D2 D3 D4 hZ hI hO u1 u2 u3 u4 m1 m2 m3 m4 hend fun h2 tk e hk he => ?_) (F.args_zip_next_1 _))))
  obtain ⟨ob, ho, hc⟩ := he
  exact wpAny_bind (wpAny_isInstance (T := "StopIteration") (b := true) ⟨ob, ho, hc⟩ isSubtype_stop (wpAny_pure (hQ _ _ hk)))
end
abbrev nT4 (h : Heap) (o1 o2 o3 o4 : Obj) : Heap := ((((h.push o1).push o2).push o3).push o4).push { cls := .type "tuple", data := .seq #[.ref h.objs.size, .ref (h.push o1).objs.size, .ref ((h.push o1).push o2).objs.size, .ref (((h.push o1).push o2).push o3).objs.size] }
abbrev nO4 (h : Heap) (o1 o2 o3 o4 : Obj) : Heap := (nT4 h o1 o2 o3 o4).push { cls := .type "tuple", data := .seq #[.none, .none, .none, .none] }
abbrev nZ4 (h : Heap) (o1 o2 o3 o4 : Obj) : Heap := (nO4 h o1 o2 o3 o4).push { cls := .type "zip", data := .fields #[.none, .bool false, .bool false, .ref ((((h.push o1).push o2).push o3).push o4).objs.size, .ref (nT4 h o1 o2 o3 o4).objs.size] }
theorem tc_zip4 (a1 a2 a3 a4 : Value) : checkTypeCall "zip" ⟨[a1, a2, a3, a4], []⟩ = pure () := by kernel_rfl
theorem nc_zip4 (a1 a2 a3 a4 : Value) : checkBuiltinCall "zip.__new__" ⟨[.type "zip", a1, a2, a3, a4], []⟩ = pure () := by kernel_rfl
theorem oi_zip4 (ob a1 a2 a3 a4 : Value) : argsOk "object.__init__" ⟨[ob, a1, a2, a3, a4], []⟩ := by unfold argsOk; kernel_rfl
theorem new_zip4 {v1 v2 v3 v4 : Value} {o1 o2 o3 o4 : Obj} {H1 H2 H3 H4 : Heap → Prop} (B1 : Begins v1 o1 H1) (B2 : Begins v2 o2 H2) (B3 : Begins v3 o3 H3) (B4 : Begins v4 o4 H4) :
    Meets (Builtin.«zip.__new__» ⟨[.type "zip", v1, v2, v3, v4], []⟩) (fun _ R s => (H1 s.heap ∧ H2 s.heap ∧ H3 s.heap ∧ H4 s.heap) ∧ R (.ok (.ret (.ref (nO4 s.heap o1 o2 o3 o4).objs.size))) { s with heap := nZ4 s.heap o1 o2 o3 o4 }) :=
  .of_wp fun prog w A R s h => by
    obtain ⟨hp, gg, dd, tk, oo⟩ := s; obtain ⟨⟨k1, k2, k3, k4⟩, h⟩ := h
    have hsub := sub_zip
    have q1 : ∀ {A2 : Around} {E Q : Value → Shared → Prop}, Q (.ref hp.objs.size) ⟨(hp.push o1), gg, dd, tk, oo⟩ → wpAny (model prog w) A2 (pyIter v1) Q E ⟨hp, gg, dd, tk, oo⟩ := fun q => B1.iter prog w _ _ ⟨hp, gg, dd, tk, oo⟩ _ (B1.keeps _ _ k1 fun b o2 e => e) q
    have q2 : ∀ {A2 : Around} {E Q : Value → Shared → Prop}, Q (.ref (hp.push o1).objs.size) ⟨((hp.push o1).push o2), gg, dd, tk, oo⟩ → wpAny (model prog w) A2 (pyIter v2) Q E ⟨(hp.push o1), gg, dd, tk, oo⟩ := fun q => B2.iter prog w _ _ ⟨(hp.push o1), gg, dd, tk, oo⟩ _ (B2.keeps _ _ k2 fun b o2 e => (Heap.get?_push_of_some _ e)) q
    have q3 : ∀ {A2 : Around} {E Q : Value → Shared → Prop}, Q (.ref ((hp.push o1).push o2).objs.size) ⟨(((hp.push o1).push o2).push o3), gg, dd, tk, oo⟩ → wpAny (model prog w) A2 (pyIter v3) Q E ⟨((hp.push o1).push o2), gg, dd, tk, oo⟩ := fun q => B3.iter prog w _ _ ⟨((hp.push o1).push o2), gg, dd, tk, oo⟩ _ (B3.keeps _ _ k3 fun b o2 e => (Heap.get?_push_of_some _ (Heap.get?_push_of_some _ e))) q
    have q4 : ∀ {A2 : Around} {E Q : Value → Shared → Prop}, Q (.ref (((hp.push o1).push o2).push o3).objs.size) ⟨((((hp.push o1).push o2).push o3).push o4), gg, dd, tk, oo⟩ → wpAny (model prog w) A2 (pyIter v4) Q E ⟨(((hp.push o1).push o2).push o3), gg, dd, tk, oo⟩ := fun q => B4.iter prog w _ _ ⟨(((hp.push o1).push o2).push o3), gg, dd, tk, oo⟩ _ (B4.keeps _ _ k4 fun b o2 e => (Heap.get?_push_of_some _ (Heap.get?_push_of_some _ (Heap.get?_push_of_some _ e)))) q
    wp_walk using q1, q2, q3, q4
    exact ⟨_, rfl, h⟩
theorem zip4_begins {prog : Program} {w : World} {A : Around} {E : Value → Shared → Prop} {s : Shared} {v1 v2 v3 v4 : Value} {o1 o2 o3 o4 : Obj} {H1 H2 H3 H4 : Heap → Prop} {Q : Value → Shared → Prop} (B1 : Begins v1 o1 H1) (B2 : Begins v2 o2 H2) (B3 : Begins v3 o3 H3) (B4 : Begins v4 o4 H4) (k1 : H1 s.heap) (k2 : H2 s.heap) (k3 : H3 s.heap) (k4 : H4 s.heap)
    (h : ∀ h2, IsZip h2 (s.heap.objs.size + 6) (s.heap.objs.size + 4) (s.heap.objs.size + 5) .none → Tup4At h2 (s.heap.objs.size + 4) (.ref s.heap.objs.size) (.ref (s.heap.objs.size + 1)) (.ref (s.heap.objs.size + 2)) (.ref (s.heap.objs.size + 3)) → Tup4At h2 (s.heap.objs.size + 5) .none .none .none .none → h2.get? s.heap.objs.size = some o1 → h2.get? (s.heap.objs.size + 1) = some o2 → h2.get? (s.heap.objs.size + 2) = some o3 → h2.get? (s.heap.objs.size + 3) = some o4 → h2.objs.size = s.heap.objs.size + 7 → (∀ c o, s.heap.get? c = some o → h2.get? c = some o) → Q (.ref (s.heap.objs.size + 6)) { s with heap := h2 }) :
    wpAny (model prog w) A (call (.type "zip") [v1, v2, v3, v4]) Q E s := by
  refine callType_new F.called_zip (by decide) (tc_zip4 _ _ _ _) (nc_zip4 _ _ _ _) (fun ob => oi_zip4 ob _ _ _ _) F.entry_zip_new (new_zip4 B1 B2 B3 B4) ⟨⟨k1, k2, k3, k4⟩, ?_⟩
  have z1 : (s.heap.push o1).objs.size = s.heap.objs.size + 1 := by rw [Heap.size_push]
  have z2 : ((s.heap.push o1).push o2).objs.size = s.heap.objs.size + 2 := by rw [Heap.size_push, z1]
  have z3 : (((s.heap.push o1).push o2).push o3).objs.size = s.heap.objs.size + 3 := by rw [Heap.size_push, z2]
  have z4 : ((((s.heap.push o1).push o2).push o3).push o4).objs.size = s.heap.objs.size + 4 := by rw [Heap.size_push, z3]
  have zT : (nT4 s.heap o1 o2 o3 o4).objs.size = s.heap.objs.size + 5 := by rw [Heap.size_push, z4]
  have zO : (nO4 s.heap o1 o2 o3 o4).objs.size = s.heap.objs.size + 6 := by rw [Heap.size_push, zT]
  have zZ : (nZ4 s.heap o1 o2 o3 o4).objs.size = s.heap.objs.size + 7 := by rw [Heap.size_push, zO]
  have gZ : (nZ4 s.heap o1 o2 o3 o4).get? (nO4 s.heap o1 o2 o3 o4).objs.size = some { cls := .type "zip", data := .fields #[.none, .bool false, .bool false, .ref ((((s.heap.push o1).push o2).push o3).push o4).objs.size, .ref (nT4 s.heap o1 o2 o3 o4).objs.size] } := Heap.get?_push_size _ rfl
  have gO : (nZ4 s.heap o1 o2 o3 o4).get? (nT4 s.heap o1 o2 o3 o4).objs.size = some { cls := .type "tuple", data := .seq #[.none, .none, .none, .none] } := Heap.get?_push_of_some _ (Heap.get?_push_size _ rfl)
  have gT : (nZ4 s.heap o1 o2 o3 o4).get? ((((s.heap.push o1).push o2).push o3).push o4).objs.size = some { cls := .type "tuple", data := .seq #[.ref s.heap.objs.size, .ref (s.heap.push o1).objs.size, .ref ((s.heap.push o1).push o2).objs.size, .ref (((s.heap.push o1).push o2).push o3).objs.size] } := Heap.get?_push_of_some _ (Heap.get?_push_of_some _ (Heap.get?_push_size _ rfl))
  have g1 : (nZ4 s.heap o1 o2 o3 o4).get? s.heap.objs.size = some o1 := Heap.get?_push_of_some _ (Heap.get?_push_of_some _ (Heap.get?_push_of_some _ (Heap.get?_push_of_some _ (Heap.get?_push_of_some _ (Heap.get?_push_of_some _ (Heap.get?_push_size _ B1.free))))))
  have g2 : (nZ4 s.heap o1 o2 o3 o4).get? (s.heap.push o1).objs.size = some o2 := Heap.get?_push_of_some _ (Heap.get?_push_of_some _ (Heap.get?_push_of_some _ (Heap.get?_push_of_some _ (Heap.get?_push_of_some _ (Heap.get?_push_size _ B2.free)))))
  have g3 : (nZ4 s.heap o1 o2 o3 o4).get? ((s.heap.push o1).push o2).objs.size = some o3 := Heap.get?_push_of_some _ (Heap.get?_push_of_some _ (Heap.get?_push_of_some _ (Heap.get?_push_of_some _ (Heap.get?_push_size _ B3.free))))
  have g4 : (nZ4 s.heap o1 o2 o3 o4).get? (((s.heap.push o1).push o2).push o3).objs.size = some o4 := Heap.get?_push_of_some _ (Heap.get?_push_of_some _ (Heap.get?_push_of_some _ (Heap.get?_push_size _ B4.free)))
  rw [zO, zT, z4] at gZ
  rw [zT] at gO
  rw [z4, z3, z2, z1] at gT
  rw [z1] at g2
  rw [z2] at g3
  rw [z3] at g4
  show _ ∧ _
  rw [zO]; exact ⟨⟨_, gZ, rfl⟩, h _ gZ gT gO g1 g2 g3 g4 zZ fun c o e => Heap.get?_push_of_some _ (Heap.get?_push_of_some _ (Heap.get?_push_of_some _ (Heap.get?_push_of_some _ (Heap.get?_push_of_some _ (Heap.get?_push_of_some _ (Heap.get?_push_of_some _ e))))))⟩
end PySem
namespace L3
open PySem PySem.Spec PyProof.Rows L2 RZ
/-! zip of three and of four sequences, each a list or a tuple -/
/-- zip of 3 sequences -/
def ItZ3 (K : PySem.W.Frag) (b1 b2 b3 : Bool) (a1 a2 a3 : Addr) : It :=
  ⟨fun i H => ∃ (xs1 xs2 xs3 : List V) (x1 x2 x3 : V), SqX K b1 H a1 xs1 ∧ SqX K b2 H a2 xs2 ∧ SqX K b3 H a3 xs3 ∧ xs1[i]? = some x1 ∧ xs2[i]? = some x2 ∧ xs3[i]? = some x3,
    fun i H v H2 => ∃ T x1 x2 x3, v = .ref T ∧ H T = none ∧ H2 = upd H T (.tup [x1, x2, x3]) ∧ (∀ l, SqX K b1 H a1 l → l[i]? = some x1) ∧ (∀ l, SqX K b2 H a2 l → l[i]? = some x2) ∧ (∀ l, SqX K b3 H a3 l → l[i]? = some x3),
    fun i H => ∃ xs1 xs2 xs3 : List V, SqX K b1 H a1 xs1 ∧ SqX K b2 H a2 xs2 ∧ SqX K b3 H a3 xs3 ∧ (xs1.length ≤ i ∨ xs2.length ≤ i ∨ xs3.length ≤ i)⟩
theorem turn_zip3 {P : Program} {w : World} {K : PySem.W.Frag} {elts : List Expr} {kk : Nat} {tpos : Pos} {b1 b2 b3 : Bool} {a1 a2 a3 zz TI TO i1 i2 i3 : Addr} (D : ZipSep3 zz TI TO i1 i2 i3 [i1, a1] [i2, a2] [i3, a3]) (ne1 : a1 ≠ i1) (ne2 : a2 ≠ i2) (ne3 : a3 ≠ i3) :
    Turn P w K (.Tuple elts kk tpos) (ItZ3 K b1 b2 b3 a1 a2 a3) [zz, TI, TO, i1, i2, i3] zz (fun i h => IsZip h zz TI TO .none ∧ IsTupOf3 h TI (.ref i1) (.ref i2) (.ref i3) ∧ (∃ x1 x2 x3, IsTupOf3 h TO x1 x2 x3) ∧ ItIs b1 h i1 a1 i ∧ ItIs b2 h i2 a2 i ∧ ItIs b3 h i3 a3 i) where
  mem := by simp
  obj := fun i h st c hc => by
    obtain ⟨hz, hTI, ⟨x1, x2, x3, hTO⟩, h1, h2, h3⟩ := st
    obtain ⟨o1, v1, e1, d1⟩ := h1.fields
    obtain ⟨o2, v2, e2, d2⟩ := h2.fields
    obtain ⟨o3, v3, e3, d3⟩ := h3.fields
    have e0 : c = zz ∨ c = TI ∨ c = TO ∨ c = i1 ∨ c = i2 ∨ c = i3 := by simpa using hc
    rcases e0 with q | q | q | q | q | q
    · rw [q]; exact ⟨_, hz, fun v q => nomatch q⟩
    · rw [q]; exact ⟨_, hTI, fun v q => nomatch q⟩
    · rw [q]; exact ⟨_, hTO, fun v q => nomatch q⟩
    · rw [q]; exact ⟨o1, e1, fun v q => by rw [d1] at q; cases q⟩
    · rw [q]; exact ⟨o2, e2, fun v q => by rw [d2] at q; cases q⟩
    · rw [q]; exact ⟨o3, e3, fun v q => by rw [d3] at q; cases q⟩
  keep := fun i h h2 st k => by
    obtain ⟨hz, hTI, ⟨x1, x2, x3, hTO⟩, h1, h2, h3⟩ := st
    exact ⟨k zz (by simp) _ hz, k TI (by simp) _ hTI, ⟨x1, x2, x3, k TO (by simp) _ hTO⟩, h1.at fun o q => k i1 (by simp) o q, h2.at fun o q => k i2 (by simp) o q, h3.at fun o q => k i3 (by simp) o q⟩
  item := by
    intro X hP hw hK hc i pins s σ H E I hf st hg
    subst hP hw hK
    obtain ⟨hz, hTI, ⟨w1, w2, w3, hTO⟩, h1, h2, h3⟩ := st
    obtain ⟨xs1, xs2, xs3, x1, x2, x3, hq1, hq2, hq3, hx1, hx2, hx3⟩ := hg
    obtain ⟨ys1, rv1, p1, _⟩ := seqX I hq1
    obtain ⟨u1, hu1, ru1⟩ := rv1.get hx1
    have s1 : i < ys1.toArray.size := by have := (List.getElem?_eq_some_iff.mp hu1).1; simpa using this
    obtain ⟨ys2, rv2, p2, _⟩ := seqX I hq2
    obtain ⟨u2, hu2, ru2⟩ := rv2.get hx2
    have s2 : i < ys2.toArray.size := by have := (List.getElem?_eq_some_iff.mp hu2).1; simpa using this
    obtain ⟨ys3, rv3, p3, _⟩ := seqX I hq3
    obtain ⟨u3, hu3, ru3⟩ := rv3.get hx3
    have s3 : i < ys3.toArray.size := by have := (List.getElem?_eq_some_iff.mp hu3).1; simpa using this
    have hzl : zz < s.heap.objs.size := Heap.lt_size hz
    refine wpAny_pyNext_zipD3_item D (drawsX (A := X.A.in1) (I.ok.hd hc) b1 i1 a1 ne1 ys1.toArray) (drawsX (A := X.A.in1) (I.ok.hd hc) b2 i2 a2 ne2 ys2.toArray) (drawsX (A := X.A.in1) (I.ok.hd hc) b3 i3 a3 ne3 ys3.toArray) hz hTI hTO ⟨h1, p1⟩ ⟨h2, p2⟩ ⟨h3, p3⟩ s1 s2 s3 fun t1 t2 t3 hA tk y1 y2 y3 z2 TO2 k1 k2 k3 hT hsz hk => ?_
    have e1 : t1 = u1 := by
      have y : ys1.toArray[i]? = some t1 := y1
      rw [List.getElem?_toArray, hu1] at y
      exact (Option.some.inj y).symm
    have e2 : t2 = u2 := by
      have y : ys2.toArray[i]? = some t2 := y2
      rw [List.getElem?_toArray, hu2] at y
      exact (Option.some.inj y).symm
    have e3 : t3 = u3 := by
      have y : ys3.toArray[i]? = some t3 := y3
      rw [List.getElem?_toArray, hu3] at y
      exact (Option.some.inj y).symm
    subst e1 e2 e3
    refine ⟨_, rfl, wpAny_letOwnedTupleGo_zip (s := { s with heap := hA, toks := tk }) z2 fun hB z3 sb => ?_⟩
    have hT2 : hB.get? s.heap.objs.size = some { cls := .type "tuple", data := .seq #[t1, t2, t3] } := (sb.2 _ (Nat.ne_of_gt hzl)).trans hT
    have new : ObjOk X.prog X.w (upd H s.heap.objs.size (.tup [x1, x2, x3])) hB s.heap.objs.size (.tup [x1, x2, x3]) :=
      ⟨by show 3 ≤ sizeLine; decide, [t1, t2, t3], (.cons ru1 (.cons ru2 (.cons ru3 .nil))), ⟨_, hT2, rfl, _, rfl⟩⟩
    have I1 : Inv X pins σ (upd H s.heap.objs.size (.tup [x1, x2, x3])) { s with heap := hB, toks := tk } :=
      I.turnedNew (t' := tk) (ch := [zz, TI, TO, i1, i2, i3]) (fun c o hb q => (sb.2 c (fun r => hb (by simp [r]))).trans (hk c o (fun r => hb (by simp [r])) (fun r => hb (by simp [r])) (fun r => hb (by simp [r])) (fun r => hb (by simp [r])) (fun r => hb (by simp [r])) q)) hf (Nat.le_refl _) new
    refine ⟨.ref s.heap.objs.size, _, I1, rfl, ⟨_, x1, x2, x3, rfl, I.hok.fresh (Nat.le_refl _), rfl, fun l hl => by rw [seqX_inj I hl hq1]; exact hx1, fun l hl => by rw [seqX_inj I hl hq2]; exact hx2, fun l hl => by rw [seqX_inj I hl hq3]; exact hx3⟩, ⟨z3, ?_, ⟨t1, t2, t3, ?_⟩, ?_, ?_, ?_⟩, fun c hcm => ?_⟩
    · exact (sb.2 _ D.TIz).trans (hk _ _ D.TIz D.TITO D.TIi1 D.TIi2 D.TIi3 hTI)
    · exact (sb.2 _ D.TOz).trans TO2
    · exact k1.1.at fun o q => (sb.2 _ D.zi1.symm).trans q
    · exact k2.1.at fun o q => (sb.2 _ D.zi2.symm).trans q
    · exact k3.1.at fun o q => (sb.2 _ D.zi3.symm).trans q
    · have hlt : c < s.heap.objs.size := by
        have e0 : c = zz ∨ c = TI ∨ c = TO ∨ c = i1 ∨ c = i2 ∨ c = i3 := by simpa using hcm
        rcases e0 with q | q | q | q | q | q
        · rw [q]; exact hzl
        · rw [q]; exact Heap.lt_size hTI
        · rw [q]; exact Heap.lt_size hTO
        · rw [q]; obtain ⟨_, _, g, _⟩ := h1.fields; exact Heap.lt_size g
        · rw [q]; obtain ⟨_, _, g, _⟩ := h2.fields; exact Heap.lt_size g
        · rw [q]; obtain ⟨_, _, g, _⟩ := h3.fields; exact Heap.lt_size g
      rw [upd_ne (Nat.ne_of_lt hlt)]
      exact (hf c hcm).1
  done := by
    intro X hP hw hK hc i pins s σ H E I hf st hg
    subst hP hw hK
    obtain ⟨hz, hTI, ⟨w1, w2, w3, hTO⟩, h1, h2, h3⟩ := st
    obtain ⟨xs1, xs2, xs3, hq1, hq2, hq3, hend⟩ := hg
    obtain ⟨ys1, rv1, p1, _⟩ := seqX I hq1
    have l1 := rv1.length
    have z1 : ys1.toArray.size = ys1.length := by simp
    obtain ⟨n1, P1, St1, D1, f1, g1, c1⟩ := drawsAt (prog := X.prog) (w := X.w) (A := X.A.in1) (I.ok.hd hc) b1 i1 a1 ne1 ys1.toArray i
    obtain ⟨ys2, rv2, p2, _⟩ := seqX I hq2
    have l2 := rv2.length
    have z2 : ys2.toArray.size = ys2.length := by simp
    obtain ⟨n2, P2, St2, D2, f2, g2, c2⟩ := drawsAt (prog := X.prog) (w := X.w) (A := X.A.in1) (I.ok.hd hc) b2 i2 a2 ne2 ys2.toArray i
    obtain ⟨ys3, rv3, p3, _⟩ := seqX I hq3
    have l3 := rv3.length
    have z3 : ys3.toArray.size = ys3.length := by simp
    obtain ⟨n3, P3, St3, D3, f3, g3, c3⟩ := drawsAt (prog := X.prog) (w := X.w) (A := X.A.in1) (I.ok.hd hc) b3 i3 a3 ne3 ys3.toArray i
    have hend2 : i = n1 ∨ i = n2 ∨ i = n3 := by
      rcases hend with q | q | q
      · exact (.inl (g1 (by omega)))
      · exact (.inr (.inl (g2 (by omega))))
      · exact (.inr (.inr (g3 (by omega))))
    exact wpAny_pyNext_zipD3_end D D1 D2 D3 hz hTI hTO (c1 _ h1 p1) (c2 _ h2 p2) (c3 _ h3 p3) f1 f2 f3 hend2 fun h2 tk hk => ⟨rfl, I.turnedL (t' := tk) (ch := [zz, TI, TO, i1, i2, i3]) (fun c o hb q => hk c o (fun r => hb (by simp [r])) (fun r => hb (by simp [r])) (fun r => hb (by simp [r])) (fun r => hb (by simp [r])) (fun r => hb (by simp [r])) q) hf⟩
  self := fun A i s Q E st h => wpAny_pyIter_zip st.1 h
def iZ3 (K : PySem.W.Frag) (ta : TA) : TI := fun σ H R => ta σ H fun vs H1 => ∃ (b1 b2 b3 : Bool) (a1 a2 a3 : Addr) (xs1 xs2 xs3 : List V), vs = [.ref a1, .ref a2, .ref a3] ∧ SqX K b1 H1 a1 xs1 ∧ SqX K b2 H1 a2 xs2 ∧ SqX K b3 H1 a3 xs3 ∧ R (ItZ3 K b1 b2 b3 a1 a2 a3) H1
theorem pi_zip3 {X : Cx} {e1 e2 e3 : Expr} {ta : TA} {p pos tpos : Pos} {elts : List Expr} {kk : Nat} (hg : Gl X "zip") (hm : X.mg "zip" = none) (ha : PA X [e1, e2, e3] ta)
    (hs : starEach [e1, e2, e3] X.env = (false, eval e1 X.env) :: starEach [e2, e3] X.env := by rfl) (hpl : (backTo pos (starEach [e2, e3] X.env)).any (·.1) = false := by rfl) :
    PI X (.Tuple elts kk tpos) (.Call (.Name "zip" p) [e1, e2, e3] [] pos) (iZ3 X.K ta) := by
  refine ⟨fun pins s σ H R I h => ?_⟩
  refine Call_ (ld_blt I hg hm PyProof.Rows.boot_zip (PyProof.Rows.callWith_type1 (thn (ha.run pos pins s σ H _ I h) fun us s1 ⟨vs, H1, I1, r1, q1⟩ => ?_) hs hpl))
  obtain ⟨b1, b2, b3, a1, a2, a3, xs1, xs2, xs3, ex, hq1, hq2, hq3, hq⟩ := q1
  subst ex
  cases r1 with
  | cons q1 m1 =>
    cases m1 with
    | cons q2 m2 =>
      cases m2 with
      | cons q3 m3 =>
        cases m3
        cases q1
        cases q2
        cases q3
        have fresh : ∀ c, c ∈ [s1.heap.objs.size + 5, s1.heap.objs.size + 3, s1.heap.objs.size + 4, s1.heap.objs.size, s1.heap.objs.size + 1, s1.heap.objs.size + 2] → FpOk X pins H1 c := fun c hcm => by
          have hle : s1.heap.objs.size ≤ c := by
            simp only [List.mem_cons, List.not_mem_nil, or_false] at hcm
            rcases hcm with z | z | z | z | z | z
            · rw [z]; exact Nat.le_add_right _ _
            · rw [z]; exact Nat.le_add_right _ _
            · rw [z]; exact Nat.le_add_right _ _
            · rw [z]; exact Nat.le_refl _
            · rw [z]; exact Nat.le_add_right _ _
            · rw [z]; exact Nat.le_add_right _ _
          exact I1.fpOk hle (I1.hok.fresh hle)
        obtain ⟨ys1, rv1, p1, lt1⟩ := seqX I1 hq1
        obtain ⟨ys2, rv2, p2, lt2⟩ := seqX I1 hq2
        obtain ⟨ys3, rv3, p3, lt3⟩ := seqX I1 hq3
        refine zip_begins3 (beginsX b1 a1 ys1.toArray) (beginsX b2 a2 ys2.toArray) (beginsX b3 a3 ys3.toArray) p1 p2 p3 fun h2 hz hTI hTO g1 g2 g3 hsz hk => wpAny_pyIter_zip hz ?_
        have I2 : Inv X pins σ H1 { s1 with heap := h2 } := I1.kept (t' := s1.toks) hk
        have ly1 : a1 < s1.heap.objs.size := lt1
        have ly2 : a2 < s1.heap.objs.size := lt2
        have ly3 : a3 < s1.heap.objs.size := lt3
        have nn (m k : Nat) (h : m ≠ k := by omega) : s1.heap.objs.size + m ≠ s1.heap.objs.size + k := by omega
        have na1 (m : Nat) : a1 ≠ s1.heap.objs.size + m := fun z => by rw [z] at ly1; exact absurd ly1 (Nat.not_lt.mpr (Nat.le_add_right _ _))
        have na2 (m : Nat) : a2 ≠ s1.heap.objs.size + m := fun z => by rw [z] at ly2; exact absurd ly2 (Nat.not_lt.mpr (Nat.le_add_right _ _))
        have na3 (m : Nat) : a3 ≠ s1.heap.objs.size + m := fun z => by rw [z] at ly3; exact absurd ly3 (Nat.not_lt.mpr (Nat.le_add_right _ _))
        have sep : ZipSep3 (s1.heap.objs.size + 5) (s1.heap.objs.size + 3) (s1.heap.objs.size + 4) (s1.heap.objs.size) (s1.heap.objs.size + 1) (s1.heap.objs.size + 2) [s1.heap.objs.size, a1] [s1.heap.objs.size + 1, a2] [s1.heap.objs.size + 2, a3] := {
          TIz := nn 3 5
          TOz := nn 4 5
          TITO := nn 3 4
          TIi1 := nn 3 0
          mem1 := by simp
          zf1 := fun h => (List.mem_cons.mp h).elim (fun h => nn 5 0 (by omega) h) fun h => na1 5 (List.mem_singleton.mp h).symm
          Tf1 := fun h => (List.mem_cons.mp h).elim (fun h => nn 4 0 (by omega) h) fun h => na1 4 (List.mem_singleton.mp h).symm
          TIi2 := nn 3 1
          mem2 := by simp
          zf2 := fun h => (List.mem_cons.mp h).elim (fun h => nn 5 1 (by omega) h) fun h => na2 5 (List.mem_singleton.mp h).symm
          Tf2 := fun h => (List.mem_cons.mp h).elim (fun h => nn 4 1 (by omega) h) fun h => na2 4 (List.mem_singleton.mp h).symm
          TIi3 := nn 3 2
          mem3 := by simp
          zf3 := fun h => (List.mem_cons.mp h).elim (fun h => nn 5 2 (by omega) h) fun h => na3 5 (List.mem_singleton.mp h).symm
          Tf3 := fun h => (List.mem_cons.mp h).elim (fun h => nn 4 2 (by omega) h) fun h => na3 4 (List.mem_singleton.mp h).symm
          sep1_2 := fun h => (List.mem_cons.mp h).elim (fun h => nn 0 1 (by omega) h) fun h => na2 0 (List.mem_singleton.mp h).symm
          sep1_3 := fun h => (List.mem_cons.mp h).elim (fun h => nn 0 2 (by omega) h) fun h => na3 0 (List.mem_singleton.mp h).symm
          sep2_1 := fun h => (List.mem_cons.mp h).elim (fun h => nn 1 0 (by omega) h) fun h => na1 1 (List.mem_singleton.mp h).symm
          sep2_3 := fun h => (List.mem_cons.mp h).elim (fun h => nn 1 2 (by omega) h) fun h => na3 1 (List.mem_singleton.mp h).symm
          sep3_1 := fun h => (List.mem_cons.mp h).elim (fun h => nn 2 0 (by omega) h) fun h => na1 2 (List.mem_singleton.mp h).symm
          sep3_2 := fun h => (List.mem_cons.mp h).elim (fun h => nn 2 1 (by omega) h) fun h => na2 2 (List.mem_singleton.mp h).symm }
        exact ⟨s1.heap.objs.size + 5, [s1.heap.objs.size + 5, s1.heap.objs.size + 3, s1.heap.objs.size + 4, s1.heap.objs.size, s1.heap.objs.size + 1, s1.heap.objs.size + 2], _, _, H1, rfl, I2, turn_zip3 sep (na1 0) (na2 1) (na3 2), ⟨hz, hTI, ⟨_, _, _, hTO⟩, itOb_is g1, itOb_is g2, itOb_is g3⟩, fresh, hq⟩
/-- the tuples that zip of 3 tells -/
def zipD3 : List PyData → List PyData → List PyData → List PyData
  | x1 :: l1, x2 :: l2, x3 :: l3 => .tuple [x1, x2, x3] :: zipD3 l1 l2 l3
  | _, _, _ => []
theorem zipD3_len : ∀ {l1 l2 l3 : List PyData} {i : Nat}, (zipD3 l1 l2 l3).length ≤ i → l1.length ≤ i ∨ l2.length ≤ i ∨ l3.length ≤ i
  | [], _, _, i, h => .inl (show 0 ≤ _ from Nat.zero_le _)
  | _ :: _, [], _, i, h => .inr (.inl (show 0 ≤ _ from Nat.zero_le _))
  | _ :: _, _ :: _, [], i, h => .inr (.inr ((show 0 ≤ _ from Nat.zero_le _)))
  | _ :: l1, _ :: l2, _ :: l3, 0, h => absurd h (Nat.not_succ_le_zero _)
  | _ :: l1, _ :: l2, _ :: l3, i + 1, h => by
    have g := zipD3_len (l1 := l1) (l2 := l2) (l3 := l3) (i := i) (Nat.le_of_succ_le_succ h)
    simp only [List.length_cons]; omega
theorem zipD3_at : ∀ {l1 l2 l3 : List PyData} {i : Nat} {x : PyData}, (zipD3 l1 l2 l3)[i]? = some x → ∃ y1 y2 y3, l1[i]? = some y1 ∧ l2[i]? = some y2 ∧ l3[i]? = some y3 ∧ x = .tuple [y1, y2, y3]
  | [], _, _, i, x, h => by unfold zipD3 at h; cases h
  | _ :: _, [], _, i, x, h => by unfold zipD3 at h; cases h
  | _ :: _, _ :: _, [], i, x, h => by unfold zipD3 at h; cases h
  | y1 :: _, y2 :: _, y3 :: _, 0, x, h => ⟨y1, y2, y3, rfl, rfl, rfl, (Option.some.inj h).symm⟩
  | _ :: l1, _ :: l2, _ :: l3, i + 1, x, h => zipD3_at (l1 := l1) (l2 := l2) (l3 := l3) (i := i) h
section
variable {X : Cx} {e1 e2 e3 : Expr} {t1 t2 t3 : TE3} {p pos : Pos}
def xZip3 (t1 t2 t3 : TE3) : TI3 := fun r R => t1 r fun x1 r1 => t2 r1 fun x2 r2 => t3 r2 fun x3 r3 => ∃ l1 l2 l3, (seqOf x1).map (·.2) = some l1 ∧ (seqOf x2).map (·.2) = some l2 ∧ (seqOf x3).map (·.2) = some l3 ∧ R (zipD3 l1 l2 l3) r3
theorem i3_zip3 {tpos : Pos} {elts : List Expr} {kk : Nat} (hg : Gl X "zip") (hm : X.mg "zip" = none) (ha1 : R3 X e1 t1) (ha2 : R3 X e2 t2) (ha3 : R3 X e3 t3) (s1 : starEach [e1, e2, e3] X.env = (false, eval e1 X.env) :: starEach [e2, e3] X.env := by rfl) (s2 : starEach [e2, e3] X.env = (false, eval e2 X.env) :: starEach [e3] X.env := by rfl) (s3 : starEach [e3] X.env = (false, eval e3 X.env) :: starEach [] X.env := by rfl)
    (hpl : (backTo pos (starEach [e2, e3] X.env)).any (·.1) = false := by rfl) : I3 X (.Tuple elts kk tpos) (.Call (.Name "zip" p) [e1, e2, e3] [] pos) (xZip3 t1 t2 t3) := by
  obtain ⟨te1, ee1, se1⟩ := ha1.ex
  obtain ⟨te2, ee2, se2⟩ := ha2.ex
  obtain ⟨te3, ee3, se3⟩ := ha3.ex
  refine ⟨_, pi_zip3 hg hm (pa_cons ee1 (pa_cons ee2 (pa_cons ee3 pa_nil s3) s2) s1) s1 hpl, fun G Z H ks vs r s R Q3 st ht k => se1 G Z H ks vs r s _ _ st ht fun Z1 H1 v1 u1 r1 g1 st1 pv1 qa1 => se2 G Z1 H1 ks vs r1 s _ _ st1 qa1 fun Z2 H2 v2 u2 r2 g2 st2 pv2 qa2 => se3 G Z2 H2 ks vs r2 s _ _ st2 qa2 fun Z3 H3 v3 u3 r3 g3 st3 pv3 qa3 => ?_⟩
  obtain ⟨l1, l2, l3, f1, f2, f3, q⟩ := qa3
  obtain ⟨b1, a1, xs1, eu1, hs1, hd1⟩ : ∃ (b : Bool) (a : Addr) (xs : List V), u1 = .ref a ∧ (∀ Z0, Sub Z3 Z0 → SqX X.K b Z0 a xs) ∧ DqAll X.K Z3 xs l1 := by
    cases sx : seqOf v1 with
    | none => rw [sx] at f1; cases f1
    | some bl =>
      obtain ⟨b, l⟩ := bl
      rw [sx] at f1; cases f1
      obtain ⟨a, xs, y1, y2, y3⟩ := seqOf_sq sx (pv1.keep ((g2.sub).trans g3.sub))
      exact ⟨b, a, xs, y1, y2, y3⟩
  obtain ⟨b2, a2, xs2, eu2, hs2, hd2⟩ : ∃ (b : Bool) (a : Addr) (xs : List V), u2 = .ref a ∧ (∀ Z0, Sub Z3 Z0 → SqX X.K b Z0 a xs) ∧ DqAll X.K Z3 xs l2 := by
    cases sx : seqOf v2 with
    | none => rw [sx] at f2; cases f2
    | some bl =>
      obtain ⟨b, l⟩ := bl
      rw [sx] at f2; cases f2
      obtain ⟨a, xs, y1, y2, y3⟩ := seqOf_sq sx (pv2.keep (g3.sub))
      exact ⟨b, a, xs, y1, y2, y3⟩
  obtain ⟨b3, a3, xs3, eu3, hs3, hd3⟩ : ∃ (b : Bool) (a : Addr) (xs : List V), u3 = .ref a ∧ (∀ Z0, Sub Z3 Z0 → SqX X.K b Z0 a xs) ∧ DqAll X.K Z3 xs l3 := by
    cases sx : seqOf v3 with
    | none => rw [sx] at f3; cases f3
    | some bl =>
      obtain ⟨b, l⟩ := bl
      rw [sx] at f3; cases f3
      obtain ⟨a, xs, y1, y2, y3⟩ := seqOf_sq sx pv3
      exact ⟨b, a, xs, y1, y2, y3⟩
  subst eu1 eu2 eu3
  refine ⟨b1, b2, b3, a1, a2, a3, xs1, xs2, xs3, rfl, hs1 _ st3.zh, hs2 _ st3.zh, hs3 _ st3.zh, k Z3 H3 _ _ r3 ((g1.trans g2).trans g3) st3 (fun Z2 H i z zh => ⟨fun x hx => ?_, fun hi => ?_⟩) q⟩
  · obtain ⟨y1, y2, y3, e1, e2, e3, rfl⟩ := zipD3_at hx
    obtain ⟨w1, m1, d1⟩ := dpa_get hd1 e1
    obtain ⟨w2, m2, d2⟩ := dpa_get hd2 e2
    obtain ⟨w3, m3, d3⟩ := dpa_get hd3 e3
    refine ⟨⟨xs1, xs2, xs3, w1, w2, w3, hs1 _ (z.trans zh), hs2 _ (z.trans zh), hs3 _ (z.trans zh), m1, m2, m3⟩, fun v2 H2 ⟨T0, x1, x2, x3, h1, h2, h3, k1, k2, k3⟩ => .inr ⟨T0, _, h2, h3, ?_⟩⟩
    have j1 := k1 xs1 (hs1 _ (z.trans zh))
    rw [m1] at j1; cases j1
    have j2 := k2 xs2 (hs2 _ (z.trans zh))
    rw [m2] at j2; cases j2
    have j3 := k3 xs3 (hs3 _ (z.trans zh))
    rw [m3] at j3; cases j3
    rw [h1]
    have s : Sub Z2 (upd Z2 T0 (.tup [w1, w2, w3])) := fun a o e => by rw [upd_ne (fun q => by rw [q] at e; have := zh _ _ e; rw [h2] at this; cases this)]; exact e
    exact .tup upd_same (.cons (dp_mono (z.trans s) _ _ d1) (.cons (dp_mono (z.trans s) _ _ d2) (.cons (dp_mono (z.trans s) _ _ d3) .nil)))
  · refine ⟨xs1, xs2, xs3, hs1 _ (z.trans zh), hs2 _ (z.trans zh), hs3 _ (z.trans zh), ?_⟩
    have g := zipD3_len hi
    have c1 := dpa_len hd1
    have c2 := dpa_len hd2
    have c3 := dpa_len hd3
    omega
end
/-- zip of 4 sequences -/
def ItZ4 (K : PySem.W.Frag) (b1 b2 b3 b4 : Bool) (a1 a2 a3 a4 : Addr) : It :=
  ⟨fun i H => ∃ (xs1 xs2 xs3 xs4 : List V) (x1 x2 x3 x4 : V), SqX K b1 H a1 xs1 ∧ SqX K b2 H a2 xs2 ∧ SqX K b3 H a3 xs3 ∧ SqX K b4 H a4 xs4 ∧ xs1[i]? = some x1 ∧ xs2[i]? = some x2 ∧ xs3[i]? = some x3 ∧ xs4[i]? = some x4,
    fun i H v H2 => ∃ T x1 x2 x3 x4, v = .ref T ∧ H T = none ∧ H2 = upd H T (.tup [x1, x2, x3, x4]) ∧ (∀ l, SqX K b1 H a1 l → l[i]? = some x1) ∧ (∀ l, SqX K b2 H a2 l → l[i]? = some x2) ∧ (∀ l, SqX K b3 H a3 l → l[i]? = some x3) ∧ (∀ l, SqX K b4 H a4 l → l[i]? = some x4),
    fun i H => ∃ xs1 xs2 xs3 xs4 : List V, SqX K b1 H a1 xs1 ∧ SqX K b2 H a2 xs2 ∧ SqX K b3 H a3 xs3 ∧ SqX K b4 H a4 xs4 ∧ (xs1.length ≤ i ∨ xs2.length ≤ i ∨ xs3.length ≤ i ∨ xs4.length ≤ i)⟩
theorem turn_zip4 {P : Program} {w : World} {K : PySem.W.Frag} {elts : List Expr} {kk : Nat} {tpos : Pos} {b1 b2 b3 b4 : Bool} {a1 a2 a3 a4 zz TI TO i1 i2 i3 i4 : Addr} (D : Sep4 zz TI TO i1 i2 i3 i4 [i1, a1] [i2, a2] [i3, a3] [i4, a4]) (ne1 : a1 ≠ i1) (ne2 : a2 ≠ i2) (ne3 : a3 ≠ i3) (ne4 : a4 ≠ i4) :
    Turn P w K (.Tuple elts kk tpos) (ItZ4 K b1 b2 b3 b4 a1 a2 a3 a4) [zz, TI, TO, i1, i2, i3, i4] zz (fun i h => IsZip h zz TI TO .none ∧ Tup4At h TI (.ref i1) (.ref i2) (.ref i3) (.ref i4) ∧ (∃ x1 x2 x3 x4, Tup4At h TO x1 x2 x3 x4) ∧ ItIs b1 h i1 a1 i ∧ ItIs b2 h i2 a2 i ∧ ItIs b3 h i3 a3 i ∧ ItIs b4 h i4 a4 i) where
  mem := by simp
  obj := fun i h st c hc => by
    obtain ⟨hz, hTI, ⟨x1, x2, x3, x4, hTO⟩, h1, h2, h3, h4⟩ := st
    obtain ⟨o1, v1, e1, d1⟩ := h1.fields
    obtain ⟨o2, v2, e2, d2⟩ := h2.fields
    obtain ⟨o3, v3, e3, d3⟩ := h3.fields
    obtain ⟨o4, v4, e4, d4⟩ := h4.fields
    have e0 : c = zz ∨ c = TI ∨ c = TO ∨ c = i1 ∨ c = i2 ∨ c = i3 ∨ c = i4 := by simpa using hc
    rcases e0 with q | q | q | q | q | q | q
    · rw [q]; exact ⟨_, hz, fun v q => nomatch q⟩
    · rw [q]; exact ⟨_, hTI, fun v q => nomatch q⟩
    · rw [q]; exact ⟨_, hTO, fun v q => nomatch q⟩
    · rw [q]; exact ⟨o1, e1, fun v q => by rw [d1] at q; cases q⟩
    · rw [q]; exact ⟨o2, e2, fun v q => by rw [d2] at q; cases q⟩
    · rw [q]; exact ⟨o3, e3, fun v q => by rw [d3] at q; cases q⟩
    · rw [q]; exact ⟨o4, e4, fun v q => by rw [d4] at q; cases q⟩
  keep := fun i h h2 st k => by
    obtain ⟨hz, hTI, ⟨x1, x2, x3, x4, hTO⟩, h1, h2, h3, h4⟩ := st
    exact ⟨k zz (by simp) _ hz, k TI (by simp) _ hTI, ⟨x1, x2, x3, x4, k TO (by simp) _ hTO⟩, h1.at fun o q => k i1 (by simp) o q, h2.at fun o q => k i2 (by simp) o q, h3.at fun o q => k i3 (by simp) o q, h4.at fun o q => k i4 (by simp) o q⟩
  item := by
    intro X hP hw hK hc i pins s σ H E I hf st hg
    subst hP hw hK
    obtain ⟨hz, hTI, ⟨w1, w2, w3, w4, hTO⟩, h1, h2, h3, h4⟩ := st
    obtain ⟨xs1, xs2, xs3, xs4, x1, x2, x3, x4, hq1, hq2, hq3, hq4, hx1, hx2, hx3, hx4⟩ := hg
    obtain ⟨ys1, rv1, p1, _⟩ := seqX I hq1
    obtain ⟨u1, hu1, ru1⟩ := rv1.get hx1
    have s1 : i < ys1.toArray.size := by have := (List.getElem?_eq_some_iff.mp hu1).1; simpa using this
    obtain ⟨ys2, rv2, p2, _⟩ := seqX I hq2
    obtain ⟨u2, hu2, ru2⟩ := rv2.get hx2
    have s2 : i < ys2.toArray.size := by have := (List.getElem?_eq_some_iff.mp hu2).1; simpa using this
    obtain ⟨ys3, rv3, p3, _⟩ := seqX I hq3
    obtain ⟨u3, hu3, ru3⟩ := rv3.get hx3
    have s3 : i < ys3.toArray.size := by have := (List.getElem?_eq_some_iff.mp hu3).1; simpa using this
    obtain ⟨ys4, rv4, p4, _⟩ := seqX I hq4
    obtain ⟨u4, hu4, ru4⟩ := rv4.get hx4
    have s4 : i < ys4.toArray.size := by have := (List.getElem?_eq_some_iff.mp hu4).1; simpa using this
    have hzl : zz < s.heap.objs.size := Heap.lt_size hz
    refine zip4_next D (drawsX (A := X.A.in1) (I.ok.hd hc) b1 i1 a1 ne1 ys1.toArray) (drawsX (A := X.A.in1) (I.ok.hd hc) b2 i2 a2 ne2 ys2.toArray) (drawsX (A := X.A.in1) (I.ok.hd hc) b3 i3 a3 ne3 ys3.toArray) (drawsX (A := X.A.in1) (I.ok.hd hc) b4 i4 a4 ne4 ys4.toArray) hz hTI hTO ⟨h1, p1⟩ ⟨h2, p2⟩ ⟨h3, p3⟩ ⟨h4, p4⟩ s1 s2 s3 s4 fun t1 t2 t3 t4 hA tk y1 y2 y3 y4 z2 TO2 k1 k2 k3 k4 hT hsz hk => ?_
    have e1 : t1 = u1 := by
      have y : ys1.toArray[i]? = some t1 := y1
      rw [List.getElem?_toArray, hu1] at y
      exact (Option.some.inj y).symm
    have e2 : t2 = u2 := by
      have y : ys2.toArray[i]? = some t2 := y2
      rw [List.getElem?_toArray, hu2] at y
      exact (Option.some.inj y).symm
    have e3 : t3 = u3 := by
      have y : ys3.toArray[i]? = some t3 := y3
      rw [List.getElem?_toArray, hu3] at y
      exact (Option.some.inj y).symm
    have e4 : t4 = u4 := by
      have y : ys4.toArray[i]? = some t4 := y4
      rw [List.getElem?_toArray, hu4] at y
      exact (Option.some.inj y).symm
    subst e1 e2 e3 e4
    refine ⟨_, rfl, wpAny_letOwnedTupleGo_zip (s := { s with heap := hA, toks := tk }) z2 fun hB z3 sb => ?_⟩
    have hT2 : hB.get? s.heap.objs.size = some { cls := .type "tuple", data := .seq #[t1, t2, t3, t4] } := (sb.2 _ (Nat.ne_of_gt hzl)).trans hT
    have new : ObjOk X.prog X.w (upd H s.heap.objs.size (.tup [x1, x2, x3, x4])) hB s.heap.objs.size (.tup [x1, x2, x3, x4]) :=
      ⟨by show 4 ≤ sizeLine; decide, [t1, t2, t3, t4], (.cons ru1 (.cons ru2 (.cons ru3 (.cons ru4 .nil)))), ⟨_, hT2, rfl, _, rfl⟩⟩
    have I1 : Inv X pins σ (upd H s.heap.objs.size (.tup [x1, x2, x3, x4])) { s with heap := hB, toks := tk } :=
      I.turnedNew (t' := tk) (ch := [zz, TI, TO, i1, i2, i3, i4]) (fun c o hb q => (sb.2 c (fun r => hb (by simp [r]))).trans (hk c o (fun r => hb (by simp [r])) (fun r => hb (by simp [r])) (fun r => hb (by simp [r])) (fun r => hb (by simp [r])) (fun r => hb (by simp [r])) (fun r => hb (by simp [r])) q)) hf (Nat.le_refl _) new
    refine ⟨.ref s.heap.objs.size, _, I1, rfl, ⟨_, x1, x2, x3, x4, rfl, I.hok.fresh (Nat.le_refl _), rfl, fun l hl => by rw [seqX_inj I hl hq1]; exact hx1, fun l hl => by rw [seqX_inj I hl hq2]; exact hx2, fun l hl => by rw [seqX_inj I hl hq3]; exact hx3, fun l hl => by rw [seqX_inj I hl hq4]; exact hx4⟩, ⟨z3, ?_, ⟨t1, t2, t3, t4, ?_⟩, ?_, ?_, ?_, ?_⟩, fun c hcm => ?_⟩
    · exact (sb.2 _ D.tz).trans (hk _ _ D.tz D.to D.ti1 D.ti2 D.ti3 D.ti4 hTI)
    · exact (sb.2 _ D.oz).trans TO2
    · exact k1.1.at fun o q => (sb.2 _ D.zi1.symm).trans q
    · exact k2.1.at fun o q => (sb.2 _ D.zi2.symm).trans q
    · exact k3.1.at fun o q => (sb.2 _ D.zi3.symm).trans q
    · exact k4.1.at fun o q => (sb.2 _ D.zi4.symm).trans q
    · have hlt : c < s.heap.objs.size := by
        have e0 : c = zz ∨ c = TI ∨ c = TO ∨ c = i1 ∨ c = i2 ∨ c = i3 ∨ c = i4 := by simpa using hcm
        rcases e0 with q | q | q | q | q | q | q
        · rw [q]; exact hzl
        · rw [q]; exact Heap.lt_size hTI
        · rw [q]; exact Heap.lt_size hTO
        · rw [q]; obtain ⟨_, _, g, _⟩ := h1.fields; exact Heap.lt_size g
        · rw [q]; obtain ⟨_, _, g, _⟩ := h2.fields; exact Heap.lt_size g
        · rw [q]; obtain ⟨_, _, g, _⟩ := h3.fields; exact Heap.lt_size g
        · rw [q]; obtain ⟨_, _, g, _⟩ := h4.fields; exact Heap.lt_size g
      rw [upd_ne (Nat.ne_of_lt hlt)]
      exact (hf c hcm).1
  done := by
    intro X hP hw hK hc i pins s σ H E I hf st hg
    subst hP hw hK
    obtain ⟨hz, hTI, ⟨w1, w2, w3, w4, hTO⟩, h1, h2, h3, h4⟩ := st
    obtain ⟨xs1, xs2, xs3, xs4, hq1, hq2, hq3, hq4, hend⟩ := hg
    obtain ⟨ys1, rv1, p1, _⟩ := seqX I hq1
    have l1 := rv1.length
    have z1 : ys1.toArray.size = ys1.length := by simp
    obtain ⟨n1, P1, St1, D1, f1, g1, c1⟩ := drawsAt (prog := X.prog) (w := X.w) (A := X.A.in1) (I.ok.hd hc) b1 i1 a1 ne1 ys1.toArray i
    obtain ⟨ys2, rv2, p2, _⟩ := seqX I hq2
    have l2 := rv2.length
    have z2 : ys2.toArray.size = ys2.length := by simp
    obtain ⟨n2, P2, St2, D2, f2, g2, c2⟩ := drawsAt (prog := X.prog) (w := X.w) (A := X.A.in1) (I.ok.hd hc) b2 i2 a2 ne2 ys2.toArray i
    obtain ⟨ys3, rv3, p3, _⟩ := seqX I hq3
    have l3 := rv3.length
    have z3 : ys3.toArray.size = ys3.length := by simp
    obtain ⟨n3, P3, St3, D3, f3, g3, c3⟩ := drawsAt (prog := X.prog) (w := X.w) (A := X.A.in1) (I.ok.hd hc) b3 i3 a3 ne3 ys3.toArray i
    obtain ⟨ys4, rv4, p4, _⟩ := seqX I hq4
    have l4 := rv4.length
    have z4 : ys4.toArray.size = ys4.length := by simp
    obtain ⟨n4, P4, St4, D4, f4, g4, c4⟩ := drawsAt (prog := X.prog) (w := X.w) (A := X.A.in1) (I.ok.hd hc) b4 i4 a4 ne4 ys4.toArray i
    have hend2 : i = n1 ∨ i = n2 ∨ i = n3 ∨ i = n4 := by
      rcases hend with q | q | q | q
      · exact (.inl (g1 (by omega)))
      · exact (.inr (.inl (g2 (by omega))))
      · exact (.inr (.inr (.inl (g3 (by omega)))))
      · exact (.inr (.inr (.inr (g4 (by omega)))))
    exact zip4_stop D D1 D2 D3 D4 hz hTI hTO (c1 _ h1 p1) (c2 _ h2 p2) (c3 _ h3 p3) (c4 _ h4 p4) f1 f2 f3 f4 hend2 fun h2 tk hk => ⟨rfl, I.turnedL (t' := tk) (ch := [zz, TI, TO, i1, i2, i3, i4]) (fun c o hb q => hk c o (fun r => hb (by simp [r])) (fun r => hb (by simp [r])) (fun r => hb (by simp [r])) (fun r => hb (by simp [r])) (fun r => hb (by simp [r])) (fun r => hb (by simp [r])) q) hf⟩
  self := fun A i s Q E st h => wpAny_pyIter_zip st.1 h
def iZ4 (K : PySem.W.Frag) (ta : TA) : TI := fun σ H R => ta σ H fun vs H1 => ∃ (b1 b2 b3 b4 : Bool) (a1 a2 a3 a4 : Addr) (xs1 xs2 xs3 xs4 : List V), vs = [.ref a1, .ref a2, .ref a3, .ref a4] ∧ SqX K b1 H1 a1 xs1 ∧ SqX K b2 H1 a2 xs2 ∧ SqX K b3 H1 a3 xs3 ∧ SqX K b4 H1 a4 xs4 ∧ R (ItZ4 K b1 b2 b3 b4 a1 a2 a3 a4) H1
theorem pi_zip4 {X : Cx} {e1 e2 e3 e4 : Expr} {ta : TA} {p pos tpos : Pos} {elts : List Expr} {kk : Nat} (hg : Gl X "zip") (hm : X.mg "zip" = none) (ha : PA X [e1, e2, e3, e4] ta)
    (hs : starEach [e1, e2, e3, e4] X.env = (false, eval e1 X.env) :: starEach [e2, e3, e4] X.env := by rfl) (hpl : (backTo pos (starEach [e2, e3, e4] X.env)).any (·.1) = false := by rfl) :
    PI X (.Tuple elts kk tpos) (.Call (.Name "zip" p) [e1, e2, e3, e4] [] pos) (iZ4 X.K ta) := by
  refine ⟨fun pins s σ H R I h => ?_⟩
  refine Call_ (ld_blt I hg hm PyProof.Rows.boot_zip (PyProof.Rows.callWith_type1 (thn (ha.run pos pins s σ H _ I h) fun us s1 ⟨vs, H1, I1, r1, q1⟩ => ?_) hs hpl))
  obtain ⟨b1, b2, b3, b4, a1, a2, a3, a4, xs1, xs2, xs3, xs4, ex, hq1, hq2, hq3, hq4, hq⟩ := q1
  subst ex
  cases r1 with
  | cons q1 m1 =>
    cases m1 with
    | cons q2 m2 =>
      cases m2 with
      | cons q3 m3 =>
        cases m3 with
        | cons q4 m4 =>
          cases m4
          cases q1
          cases q2
          cases q3
          cases q4
          have fresh : ∀ c, c ∈ [s1.heap.objs.size + 6, s1.heap.objs.size + 4, s1.heap.objs.size + 5, s1.heap.objs.size, s1.heap.objs.size + 1, s1.heap.objs.size + 2, s1.heap.objs.size + 3] → FpOk X pins H1 c := fun c hcm => by
            have hle : s1.heap.objs.size ≤ c := by
              simp only [List.mem_cons, List.not_mem_nil, or_false] at hcm
              rcases hcm with z | z | z | z | z | z | z
              · rw [z]; exact Nat.le_add_right _ _
              · rw [z]; exact Nat.le_add_right _ _
              · rw [z]; exact Nat.le_add_right _ _
              · rw [z]; exact Nat.le_refl _
              · rw [z]; exact Nat.le_add_right _ _
              · rw [z]; exact Nat.le_add_right _ _
              · rw [z]; exact Nat.le_add_right _ _
            exact I1.fpOk hle (I1.hok.fresh hle)
          obtain ⟨ys1, rv1, p1, lt1⟩ := seqX I1 hq1
          obtain ⟨ys2, rv2, p2, lt2⟩ := seqX I1 hq2
          obtain ⟨ys3, rv3, p3, lt3⟩ := seqX I1 hq3
          obtain ⟨ys4, rv4, p4, lt4⟩ := seqX I1 hq4
          refine zip4_begins (beginsX b1 a1 ys1.toArray) (beginsX b2 a2 ys2.toArray) (beginsX b3 a3 ys3.toArray) (beginsX b4 a4 ys4.toArray) p1 p2 p3 p4 fun h2 hz hTI hTO g1 g2 g3 g4 hsz hk => wpAny_pyIter_zip hz ?_
          have I2 : Inv X pins σ H1 { s1 with heap := h2 } := I1.kept (t' := s1.toks) hk
          have ly1 : a1 < s1.heap.objs.size := lt1
          have ly2 : a2 < s1.heap.objs.size := lt2
          have ly3 : a3 < s1.heap.objs.size := lt3
          have ly4 : a4 < s1.heap.objs.size := lt4
          have nn (m k : Nat) (h : m ≠ k := by omega) : s1.heap.objs.size + m ≠ s1.heap.objs.size + k := by omega
          have na1 (m : Nat) : a1 ≠ s1.heap.objs.size + m := fun z => by rw [z] at ly1; exact absurd ly1 (Nat.not_lt.mpr (Nat.le_add_right _ _))
          have na2 (m : Nat) : a2 ≠ s1.heap.objs.size + m := fun z => by rw [z] at ly2; exact absurd ly2 (Nat.not_lt.mpr (Nat.le_add_right _ _))
          have na3 (m : Nat) : a3 ≠ s1.heap.objs.size + m := fun z => by rw [z] at ly3; exact absurd ly3 (Nat.not_lt.mpr (Nat.le_add_right _ _))
          have na4 (m : Nat) : a4 ≠ s1.heap.objs.size + m := fun z => by rw [z] at ly4; exact absurd ly4 (Nat.not_lt.mpr (Nat.le_add_right _ _))
          have sep : Sep4 (s1.heap.objs.size + 6) (s1.heap.objs.size + 4) (s1.heap.objs.size + 5) (s1.heap.objs.size) (s1.heap.objs.size + 1) (s1.heap.objs.size + 2) (s1.heap.objs.size + 3) [s1.heap.objs.size, a1] [s1.heap.objs.size + 1, a2] [s1.heap.objs.size + 2, a3] [s1.heap.objs.size + 3, a4] := {
            tz := nn 4 6
            oz := nn 5 6
            to := nn 4 5
            ti1 := nn 4 0
            mm1 := by simp
            zf1 := fun h => (List.mem_cons.mp h).elim (fun h => nn 6 0 (by omega) h) fun h => na1 6 (List.mem_singleton.mp h).symm
            of1 := fun h => (List.mem_cons.mp h).elim (fun h => nn 5 0 (by omega) h) fun h => na1 5 (List.mem_singleton.mp h).symm
            ti2 := nn 4 1
            mm2 := by simp
            zf2 := fun h => (List.mem_cons.mp h).elim (fun h => nn 6 1 (by omega) h) fun h => na2 6 (List.mem_singleton.mp h).symm
            of2 := fun h => (List.mem_cons.mp h).elim (fun h => nn 5 1 (by omega) h) fun h => na2 5 (List.mem_singleton.mp h).symm
            ti3 := nn 4 2
            mm3 := by simp
            zf3 := fun h => (List.mem_cons.mp h).elim (fun h => nn 6 2 (by omega) h) fun h => na3 6 (List.mem_singleton.mp h).symm
            of3 := fun h => (List.mem_cons.mp h).elim (fun h => nn 5 2 (by omega) h) fun h => na3 5 (List.mem_singleton.mp h).symm
            ti4 := nn 4 3
            mm4 := by simp
            zf4 := fun h => (List.mem_cons.mp h).elim (fun h => nn 6 3 (by omega) h) fun h => na4 6 (List.mem_singleton.mp h).symm
            of4 := fun h => (List.mem_cons.mp h).elim (fun h => nn 5 3 (by omega) h) fun h => na4 5 (List.mem_singleton.mp h).symm
            ap12 := fun h => (List.mem_cons.mp h).elim (fun h => nn 0 1 (by omega) h) fun h => na2 0 (List.mem_singleton.mp h).symm
            ap13 := fun h => (List.mem_cons.mp h).elim (fun h => nn 0 2 (by omega) h) fun h => na3 0 (List.mem_singleton.mp h).symm
            ap14 := fun h => (List.mem_cons.mp h).elim (fun h => nn 0 3 (by omega) h) fun h => na4 0 (List.mem_singleton.mp h).symm
            ap21 := fun h => (List.mem_cons.mp h).elim (fun h => nn 1 0 (by omega) h) fun h => na1 1 (List.mem_singleton.mp h).symm
            ap23 := fun h => (List.mem_cons.mp h).elim (fun h => nn 1 2 (by omega) h) fun h => na3 1 (List.mem_singleton.mp h).symm
            ap24 := fun h => (List.mem_cons.mp h).elim (fun h => nn 1 3 (by omega) h) fun h => na4 1 (List.mem_singleton.mp h).symm
            ap31 := fun h => (List.mem_cons.mp h).elim (fun h => nn 2 0 (by omega) h) fun h => na1 2 (List.mem_singleton.mp h).symm
            ap32 := fun h => (List.mem_cons.mp h).elim (fun h => nn 2 1 (by omega) h) fun h => na2 2 (List.mem_singleton.mp h).symm
            ap34 := fun h => (List.mem_cons.mp h).elim (fun h => nn 2 3 (by omega) h) fun h => na4 2 (List.mem_singleton.mp h).symm
            ap41 := fun h => (List.mem_cons.mp h).elim (fun h => nn 3 0 (by omega) h) fun h => na1 3 (List.mem_singleton.mp h).symm
            ap42 := fun h => (List.mem_cons.mp h).elim (fun h => nn 3 1 (by omega) h) fun h => na2 3 (List.mem_singleton.mp h).symm
            ap43 := fun h => (List.mem_cons.mp h).elim (fun h => nn 3 2 (by omega) h) fun h => na3 3 (List.mem_singleton.mp h).symm }
          exact ⟨s1.heap.objs.size + 6, [s1.heap.objs.size + 6, s1.heap.objs.size + 4, s1.heap.objs.size + 5, s1.heap.objs.size, s1.heap.objs.size + 1, s1.heap.objs.size + 2, s1.heap.objs.size + 3], _, _, H1, rfl, I2, turn_zip4 sep (na1 0) (na2 1) (na3 2) (na4 3), ⟨hz, hTI, ⟨_, _, _, _, hTO⟩, itOb_is g1, itOb_is g2, itOb_is g3, itOb_is g4⟩, fresh, hq⟩
/-- the tuples that zip of 4 tells -/
def zipD4 : List PyData → List PyData → List PyData → List PyData → List PyData
  | x1 :: l1, x2 :: l2, x3 :: l3, x4 :: l4 => .tuple [x1, x2, x3, x4] :: zipD4 l1 l2 l3 l4
  | _, _, _, _ => []
theorem zipD4_len : ∀ {l1 l2 l3 l4 : List PyData} {i : Nat}, (zipD4 l1 l2 l3 l4).length ≤ i → l1.length ≤ i ∨ l2.length ≤ i ∨ l3.length ≤ i ∨ l4.length ≤ i
  | [], _, _, _, i, h => .inl (show 0 ≤ _ from Nat.zero_le _)
  | _ :: _, [], _, _, i, h => .inr (.inl (show 0 ≤ _ from Nat.zero_le _))
  | _ :: _, _ :: _, [], _, i, h => .inr (.inr (.inl (show 0 ≤ _ from Nat.zero_le _)))
  | _ :: _, _ :: _, _ :: _, [], i, h => .inr (.inr (.inr ((show 0 ≤ _ from Nat.zero_le _))))
  | _ :: l1, _ :: l2, _ :: l3, _ :: l4, 0, h => absurd h (Nat.not_succ_le_zero _)
  | _ :: l1, _ :: l2, _ :: l3, _ :: l4, i + 1, h => by
    have g := zipD4_len (l1 := l1) (l2 := l2) (l3 := l3) (l4 := l4) (i := i) (Nat.le_of_succ_le_succ h)
    simp only [List.length_cons]; omega
theorem zipD4_at : ∀ {l1 l2 l3 l4 : List PyData} {i : Nat} {x : PyData}, (zipD4 l1 l2 l3 l4)[i]? = some x → ∃ y1 y2 y3 y4, l1[i]? = some y1 ∧ l2[i]? = some y2 ∧ l3[i]? = some y3 ∧ l4[i]? = some y4 ∧ x = .tuple [y1, y2, y3, y4]
  | [], _, _, _, i, x, h => by unfold zipD4 at h; cases h
  | _ :: _, [], _, _, i, x, h => by unfold zipD4 at h; cases h
  | _ :: _, _ :: _, [], _, i, x, h => by unfold zipD4 at h; cases h
  | _ :: _, _ :: _, _ :: _, [], i, x, h => by unfold zipD4 at h; cases h
  | y1 :: _, y2 :: _, y3 :: _, y4 :: _, 0, x, h => ⟨y1, y2, y3, y4, rfl, rfl, rfl, rfl, (Option.some.inj h).symm⟩
  | _ :: l1, _ :: l2, _ :: l3, _ :: l4, i + 1, x, h => zipD4_at (l1 := l1) (l2 := l2) (l3 := l3) (l4 := l4) (i := i) h
section
variable {X : Cx} {e1 e2 e3 e4 : Expr} {t1 t2 t3 t4 : TE3} {p pos : Pos}
def xZip4 (t1 t2 t3 t4 : TE3) : TI3 := fun r R => t1 r fun x1 r1 => t2 r1 fun x2 r2 => t3 r2 fun x3 r3 => t4 r3 fun x4 r4 => ∃ l1 l2 l3 l4, (seqOf x1).map (·.2) = some l1 ∧ (seqOf x2).map (·.2) = some l2 ∧ (seqOf x3).map (·.2) = some l3 ∧ (seqOf x4).map (·.2) = some l4 ∧ R (zipD4 l1 l2 l3 l4) r4
theorem i3_zip4 {tpos : Pos} {elts : List Expr} {kk : Nat} (hg : Gl X "zip") (hm : X.mg "zip" = none) (ha1 : R3 X e1 t1) (ha2 : R3 X e2 t2) (ha3 : R3 X e3 t3) (ha4 : R3 X e4 t4) (s1 : starEach [e1, e2, e3, e4] X.env = (false, eval e1 X.env) :: starEach [e2, e3, e4] X.env := by rfl) (s2 : starEach [e2, e3, e4] X.env = (false, eval e2 X.env) :: starEach [e3, e4] X.env := by rfl) (s3 : starEach [e3, e4] X.env = (false, eval e3 X.env) :: starEach [e4] X.env := by rfl) (s4 : starEach [e4] X.env = (false, eval e4 X.env) :: starEach [] X.env := by rfl)
    (hpl : (backTo pos (starEach [e2, e3, e4] X.env)).any (·.1) = false := by rfl) : I3 X (.Tuple elts kk tpos) (.Call (.Name "zip" p) [e1, e2, e3, e4] [] pos) (xZip4 t1 t2 t3 t4) := by
  obtain ⟨te1, ee1, se1⟩ := ha1.ex
  obtain ⟨te2, ee2, se2⟩ := ha2.ex
  obtain ⟨te3, ee3, se3⟩ := ha3.ex
  obtain ⟨te4, ee4, se4⟩ := ha4.ex
  refine ⟨_, pi_zip4 hg hm (pa_cons ee1 (pa_cons ee2 (pa_cons ee3 (pa_cons ee4 pa_nil s4) s3) s2) s1) s1 hpl, fun G Z H ks vs r s R Q3 st ht k => se1 G Z H ks vs r s _ _ st ht fun Z1 H1 v1 u1 r1 g1 st1 pv1 qa1 => se2 G Z1 H1 ks vs r1 s _ _ st1 qa1 fun Z2 H2 v2 u2 r2 g2 st2 pv2 qa2 => se3 G Z2 H2 ks vs r2 s _ _ st2 qa2 fun Z3 H3 v3 u3 r3 g3 st3 pv3 qa3 => se4 G Z3 H3 ks vs r3 s _ _ st3 qa3 fun Z4 H4 v4 u4 r4 g4 st4 pv4 qa4 => ?_⟩
  obtain ⟨l1, l2, l3, l4, f1, f2, f3, f4, q⟩ := qa4
  obtain ⟨b1, a1, xs1, eu1, hs1, hd1⟩ : ∃ (b : Bool) (a : Addr) (xs : List V), u1 = .ref a ∧ (∀ Z0, Sub Z4 Z0 → SqX X.K b Z0 a xs) ∧ DqAll X.K Z4 xs l1 := by
    cases sx : seqOf v1 with
    | none => rw [sx] at f1; cases f1
    | some bl =>
      obtain ⟨b, l⟩ := bl
      rw [sx] at f1; cases f1
      obtain ⟨a, xs, y1, y2, y3⟩ := seqOf_sq sx (pv1.keep (((g2.sub).trans g3.sub).trans g4.sub))
      exact ⟨b, a, xs, y1, y2, y3⟩
  obtain ⟨b2, a2, xs2, eu2, hs2, hd2⟩ : ∃ (b : Bool) (a : Addr) (xs : List V), u2 = .ref a ∧ (∀ Z0, Sub Z4 Z0 → SqX X.K b Z0 a xs) ∧ DqAll X.K Z4 xs l2 := by
    cases sx : seqOf v2 with
    | none => rw [sx] at f2; cases f2
    | some bl =>
      obtain ⟨b, l⟩ := bl
      rw [sx] at f2; cases f2
      obtain ⟨a, xs, y1, y2, y3⟩ := seqOf_sq sx (pv2.keep ((g3.sub).trans g4.sub))
      exact ⟨b, a, xs, y1, y2, y3⟩
  obtain ⟨b3, a3, xs3, eu3, hs3, hd3⟩ : ∃ (b : Bool) (a : Addr) (xs : List V), u3 = .ref a ∧ (∀ Z0, Sub Z4 Z0 → SqX X.K b Z0 a xs) ∧ DqAll X.K Z4 xs l3 := by
    cases sx : seqOf v3 with
    | none => rw [sx] at f3; cases f3
    | some bl =>
      obtain ⟨b, l⟩ := bl
      rw [sx] at f3; cases f3
      obtain ⟨a, xs, y1, y2, y3⟩ := seqOf_sq sx (pv3.keep (g4.sub))
      exact ⟨b, a, xs, y1, y2, y3⟩
  obtain ⟨b4, a4, xs4, eu4, hs4, hd4⟩ : ∃ (b : Bool) (a : Addr) (xs : List V), u4 = .ref a ∧ (∀ Z0, Sub Z4 Z0 → SqX X.K b Z0 a xs) ∧ DqAll X.K Z4 xs l4 := by
    cases sx : seqOf v4 with
    | none => rw [sx] at f4; cases f4
    | some bl =>
      obtain ⟨b, l⟩ := bl
      rw [sx] at f4; cases f4
      obtain ⟨a, xs, y1, y2, y3⟩ := seqOf_sq sx pv4
      exact ⟨b, a, xs, y1, y2, y3⟩
  subst eu1 eu2 eu3 eu4
  refine ⟨b1, b2, b3, b4, a1, a2, a3, a4, xs1, xs2, xs3, xs4, rfl, hs1 _ st4.zh, hs2 _ st4.zh, hs3 _ st4.zh, hs4 _ st4.zh, k Z4 H4 _ _ r4 (((g1.trans g2).trans g3).trans g4) st4 (fun Z2 H i z zh => ⟨fun x hx => ?_, fun hi => ?_⟩) q⟩
  · obtain ⟨y1, y2, y3, y4, e1, e2, e3, e4, rfl⟩ := zipD4_at hx
    obtain ⟨w1, m1, d1⟩ := dpa_get hd1 e1
    obtain ⟨w2, m2, d2⟩ := dpa_get hd2 e2
    obtain ⟨w3, m3, d3⟩ := dpa_get hd3 e3
    obtain ⟨w4, m4, d4⟩ := dpa_get hd4 e4
    refine ⟨⟨xs1, xs2, xs3, xs4, w1, w2, w3, w4, hs1 _ (z.trans zh), hs2 _ (z.trans zh), hs3 _ (z.trans zh), hs4 _ (z.trans zh), m1, m2, m3, m4⟩, fun v2 H2 ⟨T0, x1, x2, x3, x4, h1, h2, h3, k1, k2, k3, k4⟩ => .inr ⟨T0, _, h2, h3, ?_⟩⟩
    have j1 := k1 xs1 (hs1 _ (z.trans zh))
    rw [m1] at j1; cases j1
    have j2 := k2 xs2 (hs2 _ (z.trans zh))
    rw [m2] at j2; cases j2
    have j3 := k3 xs3 (hs3 _ (z.trans zh))
    rw [m3] at j3; cases j3
    have j4 := k4 xs4 (hs4 _ (z.trans zh))
    rw [m4] at j4; cases j4
    rw [h1]
    have s : Sub Z2 (upd Z2 T0 (.tup [w1, w2, w3, w4])) := fun a o e => by rw [upd_ne (fun q => by rw [q] at e; have := zh _ _ e; rw [h2] at this; cases this)]; exact e
    exact .tup upd_same (.cons (dp_mono (z.trans s) _ _ d1) (.cons (dp_mono (z.trans s) _ _ d2) (.cons (dp_mono (z.trans s) _ _ d3) (.cons (dp_mono (z.trans s) _ _ d4) .nil))))
  · refine ⟨xs1, xs2, xs3, xs4, hs1 _ (z.trans zh), hs2 _ (z.trans zh), hs3 _ (z.trans zh), hs4 _ (z.trans zh), ?_⟩
    have g := zipD4_len hi
    have c1 := dpa_len hd1
    have c2 := dpa_len hd2
    have c3 := dpa_len hd3
    have c4 := dpa_len hd4
    omega
end
end L3
namespace L3
open PySem PySem.Spec PyProof.Rows L2
theorem shp_nilL : SeqAt.shaped (.list []) = true := rfl
theorem pz {j : Int} (h : 0 < j := by decide) : 0 < j := h
theorem nd0 : ([] : List Nat).Nodup := List.nodup_nil
theorem sz (n : Nat) (h : n ≤ 1000 := by decide) : n ≤ sizeLine := Nat.le_trans h (by decide)
theorem dT {p : Prop} [Decidable p] (h : decide p = true) : p := of_decide_eq_true h
theorem dF {p : Prop} [Decidable p] (h : decide p = false) : ¬ p := of_decide_eq_false h
local macro_rules | `(tactic| wtm_at "sh") => `(tactic| conv => whnf)
/-! ## sizes, data -/
/-- below 2 ^ n -/
def Sz (n : Nat) (i : Int) : Prop := i.natAbs < 2 ^ n
theorem Sz.log {n : Nat} {i : Int} (h : Sz n i) : i.natAbs.log2 ≤ n := by
  by_cases e : i.natAbs = 0
  · rw [e]; exact Nat.zero_le _
  · exact Nat.le_of_lt_succ (Nat.lt_succ_of_lt ((Nat.log2_lt e).mpr h))
theorem Sz.mono {n m : Nat} {i : Int} (h : Sz n i) (k : n ≤ m) : Sz m i := Nat.lt_of_lt_of_le h (Nat.pow_le_pow_right (by decide) k)
theorem Sz.mul {n m : Nat} {i j : Int} (h : Sz n i) (k : Sz m j) : Sz (n + m) (i * j) := by
  unfold Sz at *
  rw [Int.natAbs_mul, Nat.pow_add]
  exact Nat.mul_lt_mul'' h k
theorem Sz.add {n : Nat} {i j : Int} (h : Sz n i) (k : Sz n j) : Sz (n + 1) (i + j) := by
  unfold Sz at *
  rw [Nat.pow_succ]
  omega
theorem Sz.sub {n : Nat} {i j : Int} (h : Sz n i) (k : Sz n j) : Sz (n + 1) (i - j) := by
  unfold Sz at *
  rw [Nat.pow_succ]
  omega
theorem Sz.neg {n : Nat} {i : Int} (h : Sz n i) : Sz n (-i) := by
  unfold Sz at *
  rw [Int.natAbs_neg]; exact h
theorem Sz.le {n : Nat} {i j : Int} (h : Sz n j) (k : i.natAbs ≤ j.natAbs) : Sz n i := Nat.lt_of_le_of_lt k h
theorem mulOk {n m : Nat} {i j : Int} (h : Sz n i) (k : Sz m j) (hn : n + m < 1000000) : MulOk i j := .inr (by
  have h1 := h.log
  have h2 := k.log
  unfold CMulW
  omega)
theorem mulOkL {i j : Int} (h : -(2 ^ 64) < i) (k : i < 2 ^ 64) : MulOk i j := .inl (.inl ⟨h, k⟩)
theorem divOk {n : Nat} {i j : Int} (h0 : 0 < j) (h : Sz n j) (hn : n < 9000) : CDivW i j := ⟨h0, Nat.lt_of_le_of_lt h.log hn⟩
theorem Sz.div {n : Nat} {i j : Int} (h : Sz n i) (h0 : 0 < j) : Sz n (i / j) := by
  refine h.le ?_
  have h1 : (i / j).natAbs ≤ i.natAbs := by
    rcases Int.lt_or_le i 0 with hi | hi
    · have a1 : i / j < 0 := Int.ediv_neg_of_neg_of_pos hi h0
      have a2 : i ≤ i / j := by
        have := Int.mul_ediv_add_emod i j
        have h3 := Int.emod_nonneg i (by omega : j ≠ 0)
        have h4 : j * (i / j) ≤ i / j := by
          have : (j - 1) * (i / j) ≤ 0 := Int.mul_nonpos_of_nonneg_of_nonpos (by omega) (by omega)
          rw [Int.sub_mul] at this
          omega
        have h5 := Int.emod_lt_of_pos i h0
        have h6 : j * (i / j) > i - j := by omega
        have h7 : j * (i / j) ≥ j * i := Int.mul_le_mul_of_nonneg_left (by
          have := Int.le_ediv_of_mul_le (a := i) (b := i) h0 (by
            have : i * j ≤ i * 1 := Int.mul_le_mul_of_nonpos_left (by omega) (by omega)
            omega)
          exact this) (by omega)
        exact Int.le_ediv_of_mul_le h0 (by
          have : i * j ≤ i * 1 := Int.mul_le_mul_of_nonpos_left (by omega) (by omega)
          omega)
      omega
    · have a1 : 0 ≤ i / j := Int.ediv_nonneg hi (by omega)
      have a2 : i / j ≤ i := Int.ediv_le_self j hi
      omega
  exact h1
/-- its numbers: below from 1 on, none too long -/
def OkA (l : List (Int × Int)) : Prop := ∀ p ∈ l, 0 < p.2 ∧ Sz 2000 p.1 ∧ Sz 2000 p.2
/-! ## near.py -/
/-- in least numbers -/
def inL (a b : Int) : Int × Int := (a / Int.gcd a b, b / Int.gcd a b)
/-- the nearest whole number, the lesser one of two as near, and how far off -/
def near (a b : Int) : Int × Int := if 2 * (a - a / b * b) ≤ b then (a / b, a - a / b * b) else (a / b + 1, b - (a - a / b * b))
def isMore (x y : Int × Int) : Bool := decide (y.1 * x.2 < x.1 * y.2)
/-- the greatest of the distances, a fraction, not in least numbers -/
def missS (q : Int) (m : Int × Int) (p : Int × Int) : Int × Int := if isMore ((near (q * p.1) p.2).2, p.2) m then ((near (q * p.1) p.2).2, p.2) else m
def missF (l : List (Int × Int)) (q : Int) : Int × Int := l.foldl (missS q) (0, 1)
def missL (l : List (Int × Int)) (q : Int) : Int × Int := inL (missF l q).1 (missF l q).2
theorem near_off {a b : Int} (hb : 0 < b) : 0 ≤ (near a b).2 ∧ (near a b).2 ≤ b := by
  have h1 := Int.emod_nonneg a (by omega : b ≠ 0)
  have h2 := Int.emod_lt_of_pos a hb
  have h3 : a - a / b * b = a % b := by
    have := Int.mul_ediv_add_emod a b
    rw [Int.mul_comm b] at this
    omega
  unfold near
  rw [h3]
  split
  · exact ⟨h1, by show a % b ≤ b; omega⟩
  · constructor
    · show 0 ≤ b - a % b; omega
    · show b - a % b ≤ b; omega
/-- a miss on the way: its number below is 1 or one of the asking's -/
theorem missF_ok {l : List (Int × Int)} {q : Int} : ∀ {m : Int × Int}, (∀ p ∈ l, 0 < p.2) → 0 ≤ m.1 → m.1 ≤ m.2 → 0 < m.2 → (m.2 = 1 ∨ ∃ p, p ∈ l ∧ m.2 = p.2) → ∀ l', l' ⊆ l → 0 ≤ (l'.foldl (missS q) m).1 ∧ (l'.foldl (missS q) m).1 ≤ (l'.foldl (missS q) m).2 ∧ 0 < (l'.foldl (missS q) m).2 ∧ ((l'.foldl (missS q) m).2 = 1 ∨ ∃ p, p ∈ l ∧ (l'.foldl (missS q) m).2 = p.2) := by
  intro m hp h0 h1 h2 h3 l'
  induction l' generalizing m with
  | nil => intro _; exact ⟨h0, h1, h2, h3⟩
  | cons p l' ih =>
    intro hs
    have hm : p ∈ l := hs (List.mem_cons_self ..)
    rw [List.foldl_cons]
    have hn := near_off (a := q * p.1) (hp p hm)
    unfold missS
    split
    · exact ih hn.1 hn.2 (hp p hm) (.inr ⟨p, hm, rfl⟩) fun x hx => hs (List.mem_cons_of_mem _ hx)
    · exact ih h0 h1 h2 h3 fun x hx => hs (List.mem_cons_of_mem _ hx)
theorem missF_take {l : List (Int × Int)} {q : Int} (hp : ∀ p ∈ l, 0 < p.2) (i : Nat) : 0 ≤ (missF (l.take i) q).1 ∧ (missF (l.take i) q).1 ≤ (missF (l.take i) q).2 ∧ 0 < (missF (l.take i) q).2 ∧ ((missF (l.take i) q).2 = 1 ∨ ∃ p, p ∈ l ∧ (missF (l.take i) q).2 = p.2) :=
  missF_ok (l := l) (m := (0, 1)) hp (by decide) (by decide) (by decide) (.inl rfl) _ (fun x hx => List.mem_of_mem_take hx)
theorem take_succ {α : Type} {l : List α} {i : Nat} {x : α} (h : l[i]? = some x) : l.take (i + 1) = l.take i ++ [x] := by
  rw [List.take_add_one, h]; rfl
end L3
namespace L3
open PySem PySem.Spec PyProof.Rows L2
local macro_rules | `(tactic| wtm_at "sh") => `(tactic| conv => whnf)
/-! ## the deck -/
theorem getI_of {α : Type} {l : List α} {i : Int} (h0 : 0 ≤ i) (h1 : i < l.length) : ∃ x, getI l i = some x ∧ l[i.toNat]? = some x ∧ x ∈ l := by
  unfold getI
  rw [if_pos h0]
  have : i.toNat < l.length := by omega
  exact ⟨l[i.toNat], List.getElem?_eq_getElem this, List.getElem?_eq_getElem this, List.getElem_mem this⟩
def DeckOk (n : Nat) (l : List T) : Prop := ∃ (c : Addr) (cells : List Int) (i s : Int), l = [.own c (cells.map fun x => .d (.int x)), .d (.int i), .d (.int s)] ∧ 0 < cells.length ∧ cells.length ≤ 64 ∧ 0 ≤ i ∧ i + n ≤ 1000000000 ∧ 0 ≤ s ∧ s < 2147483648
theorem DeckOk.mono {n m : Nat} {l : List T} (h : DeckOk n l) (k : m ≤ n) : DeckOk m l := by
  obtain ⟨c, cells, i, s, e, h1, h2, h3, h4, h5⟩ := h
  exact ⟨c, cells, i, s, e, h1, h2, h3, by omega, h5⟩
def FrOk (p : Int × Int) : Prop := 0 < p.2 ∧ p.2 ≤ 100000000000000000000 ∧ -1000000000000000000000 ≤ p.1 ∧ p.1 ≤ 1000000000000000000000
theorem two {l : List PyData} {a b : PyData} {x : Int} (e : l = [a, b]) (h0 : 0 ≤ x) (h1 : x < 2) : ∃ z, getI l x = some z ∧ (z = a ∨ z = b) := by
  subst e
  have : x = 0 ∨ x = 1 := by omega
  rcases this with rfl | rfl
  · exact ⟨a, rfl, .inl rfl⟩
  · exact ⟨b, rfl, .inr rfl⟩
end L3
namespace L3
open PySem PySem.Spec PyProof.Rows L2
local macro_rules | `(tactic| wtm_at "sh") => `(tactic| conv => whnf)
theorem FrOk.ok {l : List (Int × Int)} (h : ∀ p ∈ l, FrOk p) : OkA l := fun p hp => by
  obtain ⟨h1, h2, h3, h4⟩ := h p hp
  exact ⟨h1, by unfold Sz; exact Nat.lt_of_lt_of_le (show p.1.natAbs < 2 ^ 80 by omega) (Nat.pow_le_pow_right (by decide) (by decide)), by unfold Sz; exact Nat.lt_of_lt_of_le (show p.2.natAbs < 2 ^ 80 by omega) (Nat.pow_le_pow_right (by decide) (by decide))⟩
end L3
namespace L3
open PySem PySem.Spec PyProof.Rows L2
local macro_rules | `(tactic| wtm_at "sh") => `(tactic| conv => whnf)
/-- plain nested data of no more than n layers -/
def Nest : Nat → PyData → Prop
  | 0, _ => False
  | _ + 1, .none => True
  | _ + 1, .int _ => True
  | _ + 1, .str i => SeqAt.shaped (.str i) = true
  | n + 1, .tuple l => l.length < sizeLine ∧ ∀ x ∈ l, Nest n x
  | n + 1, .list l => l.length < sizeLine ∧ ∀ x ∈ l, Nest n x
  | _ + 1, _ => False
end L3
namespace L3
open PySem PySem.Spec PyProof.Rows L2
local macro_rules | `(tactic| wtm_at "sh") => `(tactic| conv => whnf)
end L3
namespace L3
open PySem PySem.Spec PyProof.Rows L2
local macro_rules | `(tactic| wtm_at "sh") => `(tactic| conv => whnf)
/-! ## nested data once more -/
theorem nest_lay : ∀ (n : Nat) (x : PyData), Nest n x → PyData.canLay0 x = true ∧ PyData.depth x ≤ n
  | 0, _, h => h.elim
  | n + 1, x, h => by
    have all : ∀ l : List PyData, (∀ y ∈ l, Nest n y) → PyData.canLayAll0 l = true ∧ PyData.depthAll l ≤ n := by
      intro l
      induction l with
      | nil => intro _; exact ⟨by simp [PyData.canLayAll0], by simp [PyData.depthAll]⟩
      | cons y l ih =>
        intro hl
        obtain ⟨h1, h2⟩ := nest_lay n y (hl y (by simp))
        obtain ⟨h3, h4⟩ := ih fun z hz => hl z (List.mem_cons_of_mem _ hz)
        refine ⟨by simp [PyData.canLayAll0, h1, h3], ?_⟩
        rw [PyData.depthAll]; omega
    cases x with
    | none => exact ⟨by simp [PyData.canLay0], by simp [PyData.depth]⟩
    | int i => exact ⟨by simp [PyData.canLay0], by simp [PyData.depth]⟩
    | str i =>
      refine ⟨?_, by simp [PyData.depth]⟩
      have h1 : SeqAt.shaped (.str i) = true := h
      unfold SeqAt.shaped at h1
      rw [Bool.and_eq_true] at h1
      exact h1.1
    | tuple l =>
      obtain ⟨h1, h2⟩ := all l h.2
      refine ⟨by simpa [PyData.canLay0] using h1, ?_⟩
      rw [PyData.depth]; omega
    | list l =>
      obtain ⟨h1, h2⟩ := all l h.2
      refine ⟨by simpa [PyData.canLay0] using h1, ?_⟩
      rw [PyData.depth]; omega
    | bool b => exact h.elim
    | dict l => exact h.elim
theorem nest_shaped {n : Nat} {x : PyData} (h : Nest n x) (hn : n ≤ 64) : SeqAt.shaped x = true := by
  obtain ⟨h1, h2⟩ := nest_lay n x h
  unfold SeqAt.shaped
  rw [Bool.and_eq_true]
  exact ⟨h1, decide_eq_true (by omega)⟩
/-! ## best.py: the best ones -/
/-- one miss is less than another: the later one than the one ahead -/
def lessM (l : List (Int × Int)) (p q : Int) : Bool := isMore (missL l p) (missL l q)
def bestS (l : List (Int × Int)) (acc : List Int) (q : Int) : List Int := if acc = [] ∨ (∃ p, acc.getLast? = some p ∧ lessM l p q = true) then acc ++ [q] else acc
instance (l : List (Int × Int)) (acc : List Int) (q : Int) : Decidable (acc = [] ∨ (∃ p, acc.getLast? = some p ∧ lessM l p q = true)) := by
  cases h : acc.getLast? with
  | none => exact .isTrue (.inl (by simpa using h))
  | some p =>
    by_cases e : lessM l p q = true
    · exact .isTrue (.inr ⟨p, rfl, e⟩)
    · refine .isFalse fun h2 => ?_
      rcases h2 with h2 | ⟨p', h3, h4⟩
      · subst h2; cases h
      · cases h3; exact e h4
/-- the best numbers up to n -/
def bestL (l : List (Int × Int)) : Nat → List Int
  | 0 => []
  | n + 1 => bestS l (bestL l n) (n + 1 : Nat)
theorem missL_ok {l : List (Int × Int)} {q : Int} (ok : OkA l) : 0 ≤ (missL l q).1 ∧ 0 < (missL l q).2 ∧ Sz 2000 (missL l q).1 ∧ Sz 2000 (missL l q).2 := by
  have m0 := missF_take (q := q) (fun p hp => (ok p hp).1) l.length
  rw [List.take_length] at m0
  obtain ⟨h0, h1, h2, h3⟩ := m0
  have sm : Sz 2000 (missF l q).2 := by
    rcases h3 with e | ⟨p, hp, e⟩
    · rw [e]; exact (show Sz 2 1 from by unfold Sz; decide).mono (by decide)
    · rw [e]; exact (ok p hp).2.2
  have hg : 0 < (Int.gcd (missF l q).1 (missF l q).2 : Int) := by
    have : Int.gcd (missF l q).1 (missF l q).2 ≠ 0 := fun e => by
      rw [Int.gcd_eq_zero_iff] at e
      omega
    omega
  have hd : (Int.gcd (missF l q).1 (missF l q).2 : Int) ≤ (missF l q).2 := Int.le_of_dvd h2 (Int.gcd_dvd_right ..)
  refine ⟨Int.ediv_nonneg h0 (by omega), ?_, (sm.le (by omega)).div hg, sm.div hg⟩
  have : 1 ≤ (missF l q).2 / (Int.gcd (missF l q).1 (missF l q).2 : Int) := Int.le_ediv_of_mul_le hg (by omega)
  show 0 < (missF l q).2 / (Int.gcd (missF l q).1 (missF l q).2 : Int)
  omega
end L3
namespace L3
open PySem PySem.Spec PyProof.Rows L2
local macro_rules | `(tactic| wtm_at "sh") => `(tactic| conv => whnf)
end L3
namespace L3
open PySem PySem.Spec PyProof.Rows L2
local macro_rules | `(tactic| wtm_at "sh") => `(tactic| conv => whnf)
/-! ## best.py: the next better one -/
end L3
namespace L3
open PySem PySem.Spec PyProof.Rows L2
local macro_rules | `(tactic| wtm_at "sh") => `(tactic| conv => whnf)
/-! ## the best ones: what stands in their list -/
end L3
namespace L3
open PySem PySem.Spec PyProof.Rows L2
local macro_rules | `(tactic| wtm_at "sh") => `(tactic| conv => whnf)
end L3
namespace L3
open PySem PySem.Spec PyProof.Rows L2
local macro_rules | `(tactic| wtm_at "sh") => `(tactic| conv => whnf)
/-! ## one fraction: how far off -/
def dst (a b q : Int) : Int := if 2 * (q * a % b) ≤ b then q * a % b else b - q * a % b
theorem dst_le {a b q : Int} (t : Int) (hb : 0 < b) : dst a b q ≤ (q * a - t * b).natAbs := by
  have h1 := Int.emod_nonneg (q * a) (show b ≠ 0 by omega)
  have h2 := Int.emod_lt_of_pos (q * a) hb
  have h3 : q * a = b * (q * a / b) + q * a % b := (Int.mul_ediv_add_emod (q * a) b).symm
  unfold dst
  generalize q * a % b = r at *
  generalize q * a / b = f at *
  have h4 : q * a - t * b = (f - t) * b + r := by rw [h3]; grind
  rw [h4]
  generalize f - t = x at *
  rcases Int.lt_trichotomy x 0 with h | h | h
  · have : x * b ≤ (-1) * b := Int.mul_le_mul_of_nonneg_right (by omega) (by omega)
    split <;> omega
  · subst h
    rw [Int.zero_mul]
    split <;> omega
  · have : 1 * b ≤ x * b := Int.mul_le_mul_of_nonneg_right (by omega) (by omega)
    split <;> omega
theorem dst_at (a b q : Int) (hb : 0 < b) : ∃ t, dst a b q = (q * a - t * b).natAbs := by
  have h1 := Int.emod_nonneg (q * a) (show b ≠ 0 by omega)
  have h2 := Int.emod_lt_of_pos (q * a) hb
  have h3 : q * a = b * (q * a / b) + q * a % b := (Int.mul_ediv_add_emod (q * a) b).symm
  unfold dst
  generalize q * a % b = r at *
  generalize q * a / b = f at *
  split
  · exact ⟨f, by
      have : q * a - f * b = r := by rw [h3]; grind
      rw [this]; omega⟩
  · exact ⟨f + 1, by
      have : q * a - (f + 1) * b = r - b := by rw [h3]; grind
      rw [this]; omega⟩
theorem dst_nonneg (a b q : Int) (hb : 0 < b) : 0 ≤ dst a b q := by
  obtain ⟨t, e⟩ := dst_at a b q hb
  omega
/-- the miss of one fraction is its distance -/
theorem missL_one {A B : Int} (hB : 0 < B) (q : Int) : (missL [(A, B)] q).1 * (inL A B).2 = dst (inL A B).1 (inL A B).2 q * (missL [(A, B)] q).2 := by
  have hg : 0 < (Int.gcd A B : Int) := by
    have : Int.gcd A B ≠ 0 := fun e => by rw [Int.gcd_eq_zero_iff] at e; omega
    omega
  have eA : A = Int.gcd A B * (inL A B).1 := (Int.mul_ediv_cancel' (Int.gcd_dvd_left ..)).symm
  have eB : B = Int.gcd A B * (inL A B).2 := (Int.mul_ediv_cancel' (Int.gcd_dvd_right ..)).symm
  have hb : 0 < (inL A B).2 := by
    rcases Int.lt_or_le 0 (inL A B).2 with h | h
    · exact h
    · have := Int.mul_nonpos_of_nonneg_of_nonpos (Int.le_of_lt hg) h
      omega
  have en : (near (q * A) B).2 = Int.gcd A B * dst (inL A B).1 (inL A B).2 q := by
    generalize (inL A B).1 = a at *
    generalize (inL A B).2 = b at *
    generalize (Int.gcd A B : Int) = g at *
    subst eA
    subst eB
    have h1 := Int.emod_nonneg (q * a) (show b ≠ 0 by omega)
    have h2 := Int.emod_lt_of_pos (q * a) hb
    have e1 : q * (g * a) - q * (g * a) / (g * b) * (g * b) = g * (q * a % b) := by
      have e2 : q * (g * a) = g * (q * a) := by grind
      rw [e2, ← Int.mul_emod_mul_of_pos _ _ hg]
      have := Int.mul_ediv_add_emod (g * (q * a)) (g * b)
      rw [Int.mul_comm (g * b)] at this
      omega
    unfold near dst
    rw [e1]
    by_cases c : 2 * (q * a % b) ≤ b
    · have c2 : 2 * (g * (q * a % b)) ≤ g * b := by
        have := Int.mul_le_mul_of_nonneg_left c (Int.le_of_lt hg)
        have e : g * (2 * (q * a % b)) = 2 * (g * (q * a % b)) := by grind
        omega
      rw [if_pos c, if_pos c2]
    · have c2 : ¬ 2 * (g * (q * a % b)) ≤ g * b := by
        have := Int.mul_lt_mul_of_pos_left (show b < 2 * (q * a % b) by omega) hg
        have e : g * (2 * (q * a % b)) = 2 * (g * (q * a % b)) := by grind
        omega
      rw [if_neg c, if_neg c2]
      show g * b - g * (q * a % b) = g * (b - q * a % b)
      grind
  have em : missF [(A, B)] q = if 0 < (near (q * A) B).2 then ((near (q * A) B).2, B) else (0, 1) := by
    show missS q (0, 1) (A, B) = _
    unfold missS isMore
    by_cases c : 0 < (near (q * A) B).2
    · rw [if_pos c, if_pos (decide_eq_true (by show (0 : Int) * B < (near (q * A) B).2 * 1; omega))]
    · rw [if_neg c, if_neg (by rw [decide_eq_true_eq]; show ¬ (0 : Int) * B < (near (q * A) B).2 * 1; omega)]
  have cross : ∀ x y : Int, 0 < y → (inL x y).1 * y = x * (inL x y).2 := fun x y hy => by
    have d1 : x = Int.gcd x y * (inL x y).1 := (Int.mul_ediv_cancel' (Int.gcd_dvd_left ..)).symm
    have d2 : y = Int.gcd x y * (inL x y).2 := (Int.mul_ediv_cancel' (Int.gcd_dvd_right ..)).symm
    generalize (inL x y).1 = u at *
    generalize (inL x y).2 = v at *
    generalize (Int.gcd x y : Int) = h at *
    rw [d1, d2]
    grind
  unfold missL
  rw [em]
  by_cases c : 0 < (near (q * A) B).2
  · rw [if_pos c]
    have e1 := cross (near (q * A) B).2 B hB
    generalize (inL (near (q * A) B).2 B).1 = u at *
    generalize (inL (near (q * A) B).2 B).2 = v at *
    rw [en] at e1
    generalize dst (inL A B).1 (inL A B).2 q = d at *
    generalize (inL A B).2 = b at *
    generalize (Int.gcd A B : Int) = g at *
    have e2 : g * (u * b) = g * (d * v) := by
      rw [eB] at e1
      grind
    exact Int.eq_of_mul_eq_mul_left (by omega) e2
  · rw [if_neg c]
    have z : dst (inL A B).1 (inL A B).2 q = 0 := by
      have h0 := dst_nonneg (inL A B).1 (inL A B).2 q hb
      rcases Int.lt_or_le 0 (dst (inL A B).1 (inL A B).2 q) with h | h
      · have := Int.mul_pos hg h
        omega
      · omega
    rw [z]
    have : inL 0 1 = (0, 1) := by decide
    rw [this]
    omega
theorem inL_pos {A B : Int} (hB : 0 < B) : 0 < (inL A B).2 ∧ (inL A B).2 ≤ B := by
  have hg : 0 < (Int.gcd A B : Int) := by
    have : Int.gcd A B ≠ 0 := fun e => by rw [Int.gcd_eq_zero_iff] at e; omega
    omega
  have hd : (Int.gcd A B : Int) ≤ B := Int.le_of_dvd hB (Int.gcd_dvd_right ..)
  have h1 : 1 ≤ B / (Int.gcd A B : Int) := Int.le_ediv_of_mul_le hg (by omega)
  exact ⟨show 0 < B / (Int.gcd A B : Int) by omega, Int.ediv_le_self _ (by omega)⟩
theorem lessM_one {A B : Int} (hB : 0 < B) (ok : OkA [(A, B)]) (p q : Int) : lessM [(A, B)] p q = decide (dst (inL A B).1 (inL A B).2 q < dst (inL A B).1 (inL A B).2 p) := by
  have hb := (inL_pos (A := A) hB).1
  have e1 := missL_one (A := A) hB p
  have e2 := missL_one (A := A) hB q
  have p1 := (missL_ok (q := p) ok).2.1
  have p2 := (missL_ok (q := q) ok).2.1
  unfold lessM isMore
  generalize (missL [(A, B)] p).1 = x1 at *
  generalize (missL [(A, B)] p).2 = x2 at *
  generalize (missL [(A, B)] q).1 = y1 at *
  generalize (missL [(A, B)] q).2 = y2 at *
  generalize dst (inL A B).1 (inL A B).2 p = dp at *
  generalize dst (inL A B).1 (inL A B).2 q = dq at *
  generalize (inL A B).2 = b at *
  have f1 : y1 * x2 * b = dq * (x2 * y2) := by
    have : y1 * x2 * b = (y1 * b) * x2 := by grind
    rw [this, e2]; grind
  have f2 : x1 * y2 * b = dp * (x2 * y2) := by
    have : x1 * y2 * b = (x1 * b) * y2 := by grind
    rw [this, e1]; grind
  have hp : 0 < x2 * y2 := Int.mul_pos p1 p2
  have iff1 : y1 * x2 < x1 * y2 ↔ dq < dp := by
    constructor
    · intro h
      have := Int.mul_lt_mul_of_pos_right h hb
      rw [f1, f2] at this
      exact Int.lt_of_mul_lt_mul_right this (by omega)
    · intro h
      have := Int.mul_lt_mul_of_pos_right h hp
      rw [← f1, ← f2] at this
      exact Int.lt_of_mul_lt_mul_right this (by omega)
  exact decide_eq_decide.mpr iff1
/-! ## the steps -/
structure Cf (a b h n be re : Int) : Prop where
  ex : ∃ s p0 p1 : Int, (s = 1 ∨ s = -1) ∧ n * a - p1 * b = s * re ∧ h * a - p0 * b = -s * be ∧ (h = 0 → s = 1) ∧ (1 ≤ h → s = 1 → 2 * be < b)
  sum : n * be + h * re = b
  h0 : 0 ≤ h
  hn : h ≤ n
  n1 : 1 ≤ n
  r0 : 0 ≤ re
  rb : re < be
  z : h = 0 → n = 1
theorem Cf.start {a b : Int} (hb : 0 < b) : Cf a b 0 1 b (a % b) := by
  have h3 := Int.mul_ediv_add_emod a b
  exact ⟨⟨1, 1, a / b, .inl rfl, by rw [Int.mul_comm (a / b)]; omega, by omega, fun _ => rfl, fun h => absurd h (by decide)⟩, by omega, by decide, by decide, by decide, Int.emod_nonneg _ (by omega), Int.emod_lt_of_pos _ hb, fun _ => rfl⟩
theorem Cf.step {a b h n be re : Int} (c : Cf a b h n be re) (hr : 0 < re) : Cf a b n (be / re * n + h) re (be % re) := by
  obtain ⟨⟨s, p0, p1, hs, e1, e2, z1, z2⟩, sum, h0, hn, n1, r0, rb, z⟩ := c
  have d1 := Int.mul_ediv_add_emod be re
  have q1 : 1 ≤ be / re := Int.le_ediv_of_mul_le hr (by omega)
  have m0 := Int.emod_nonneg be (show re ≠ 0 by omega)
  have m1 := Int.emod_lt_of_pos be hr
  generalize be / re = k at *
  generalize be % re = m at *
  have kn : n ≤ k * n := by
    have := Int.mul_le_mul_of_nonneg_right q1 (show 0 ≤ n by omega)
    omega
  refine ⟨⟨-s, p1, k * p1 + p0, by omega, ?_, by rw [e1]; grind, fun e => by omega, fun _ e => ?_⟩, ?_, by omega, by omega, by omega, m0, m1, fun e => by omega⟩
  · have : (k * n + h) * a - (k * p1 + p0) * b = k * (n * a - p1 * b) + (h * a - p0 * b) := by grind
    rw [this, e1, e2, ← d1]
    grind
  · have h1 : 1 ≤ h := by
      rcases Int.lt_or_le 0 h with h | h
      · omega
      · have := z1 (by omega)
        omega
    have h2 : be ≤ n * be := by
      have := Int.mul_le_mul_of_nonneg_right n1 (show 0 ≤ be by omega)
      omega
    have h3 : re ≤ h * re := by
      have := Int.mul_le_mul_of_nonneg_right h1 r0
      omega
    omega
  · rw [← sum, ← d1]
    grind
theorem Cf.det {a b h n be re s p0 p1 : Int} (hb : 0 < b) (e1 : n * a - p1 * b = s * re) (e2 : h * a - p0 * b = -s * be) (sum : n * be + h * re = b) : n * p0 - h * p1 = s := by
  have : (n * p0 - h * p1) * b = s * b := by
    have e3 : (n * p0 - h * p1) * b = s * (n * be + h * re) := by grind
    rw [e3, sum]
  exact Int.eq_of_mul_eq_mul_right (by omega) this
/-- nothing ahead of n is nearer than what is left -/
theorem Cf.far {a b h n be re : Int} (hb : 0 < b) (c : Cf a b h n be re) (hh : 1 ≤ h) {j : Int} (j0 : 0 < j) (jn : j < n) : be ≤ dst a b j := by
  obtain ⟨⟨s, p0, p1, hs, e1, e2, _, _⟩, sum, h0, hn, n1, r0, rb, z⟩ := c
  have dt := Cf.det hb e1 e2 sum
  obtain ⟨t, et⟩ := dst_at a b j hb
  rw [et]
  have ss : s * s = 1 := by rcases hs with rfl | rfl <;> rfl
  -- j = x h + y n, t = x p0 + y p1
  obtain ⟨x, hx⟩ : ∃ x, x = -s * (j * p1 - t * n) := ⟨_, rfl⟩
  obtain ⟨y, hy⟩ : ∃ y, y = -s * (h * t - p0 * j) := ⟨_, rfl⟩
  have ej : j = x * h + y * n := by
    have : x * h + y * n = s * (n * p0 - h * p1) * j := by rw [hx, hy]; grind
    rw [this, dt, ss]; omega
  have et2 : t = x * p0 + y * p1 := by
    have : x * p0 + y * p1 = s * (n * p0 - h * p1) * t := by rw [hx, hy]; grind
    rw [this, dt, ss]; omega
  have ev : j * a - t * b = -s * (x * be - y * re) := by
    have : j * a - t * b = x * (h * a - p0 * b) + y * (n * a - p1 * b) := by
      rw [ej, et2]; grind
    rw [this, e1, e2]; grind
  have eabs : (j * a - t * b).natAbs = (x * be - y * re).natAbs := by
    rw [ev, Int.natAbs_mul]
    have : (-s).natAbs = 1 := by rcases hs with rfl | rfl <;> rfl
    rw [this, Nat.one_mul]
  rw [eabs]
  clear hx hy ev eabs et et2 e1 e2 dt
  rcases Int.lt_trichotomy y 0 with hy | hy | hy
  · have h1 : y * n ≤ (-1) * n := Int.mul_le_mul_of_nonneg_right (by omega) (by omega)
    have h2 : 0 < x * h := by omega
    have h3 : 0 < x := Int.pos_of_mul_pos_left h2 (by omega)
    have h4 : 1 * be ≤ x * be := Int.mul_le_mul_of_nonneg_right (by omega) (by omega)
    have h5 : y * re ≤ 0 := Int.mul_nonpos_of_nonpos_of_nonneg (by omega) r0
    omega
  · subst hy
    have h2 : 0 < x * h := by omega
    have h3 : 0 < x := Int.pos_of_mul_pos_left h2 (by omega)
    have h4 : 1 * be ≤ x * be := Int.mul_le_mul_of_nonneg_right (by omega) (by omega)
    omega
  · have h1 : 1 * n ≤ y * n := Int.mul_le_mul_of_nonneg_right (by omega) (by omega)
    have h2 : x * h < 0 := by omega
    have h3 : x < 0 := by
      rcases Int.lt_or_le x 0 with h | h
      · exact h
      · have := Int.mul_nonneg h h0
        omega
    have h4 : x * be ≤ (-1) * be := Int.mul_le_mul_of_nonneg_right (by omega) (by omega)
    have h5 : 0 ≤ y * re := Int.mul_nonneg (by omega) r0
    omega
theorem Cf.near {a b h n be re : Int} (hb : 0 < b) (c : Cf a b h n be re) : dst a b n ≤ re ∧ dst a b h ≤ be := by
  obtain ⟨⟨s, p0, p1, hs, e1, e2, _, _⟩, sum, h0, hn, n1, r0, rb, z⟩ := c
  have k1 := dst_le (a := a) (q := n) p1 hb
  have k2 := dst_le (a := a) (q := h) p0 hb
  rw [e1] at k1
  rw [e2] at k2
  rcases hs with rfl | rfl <;> constructor <;> omega
/-- what two neighbours among the best ones of one fraction are to each other -/
def Pair1 (a b v u : Int) : Prop := ∃ s p0 p1 be re : Int, (s = 1 ∨ s = -1) ∧ u * a - p1 * b = s * re ∧ v * a - p0 * b = -s * be ∧ u * p0 - v * p1 = s ∧ 0 ≤ re ∧ re < be ∧ 2 * re < b ∧ 2 * be ≤ b ∧ (s = 1 → 2 * be < b)
def PairsOk (a b : Int) (ns : List Int) : Prop := ∀ (i : Nat) (v u : Int), ns[i]? = some v → ns[i + 1]? = some u → Pair1 a b v u
theorem PairsOk.push {a b : Int} {ns : List Int} {h n : Int} (p : PairsOk a b ns) (hl : ns = [] ∨ (ns.getLast? = some h ∧ Pair1 a b h n)) : PairsOk a b (ns ++ [n]) := by
  intro i v u h1 h2
  by_cases hi : i + 1 < ns.length
  · rw [List.getElem?_append_left hi] at h2
    rw [List.getElem?_append_left (by omega)] at h1
    exact p i v u h1 h2
  · have hi2 : i + 1 = ns.length := by
      have := (List.getElem?_eq_some_iff.mp h2).1
      rw [List.length_append] at this
      simp at this
      omega
    rw [List.getElem?_append_left (by omega)] at h1
    rw [List.getElem?_append_right (by omega), hi2, Nat.sub_self] at h2
    have hu : u = n := by simpa using h2.symm
    rcases hl with hl | ⟨hl, hp⟩
    · rw [hl] at hi2
      simp at hi2
    · have hv : v = h := by
        rw [List.getLast?_eq_getElem?, ← hi2, Nat.add_sub_cancel, h1] at hl
        exact Option.some.inj hl
      rw [hu, hv]; exact hp
theorem PairsOk.pop {a b : Int} {ns : List Int} (p : PairsOk a b ns) : PairsOk a b ns.dropLast := by
  intro i v u h1 h2
  rw [List.getElem?_dropLast] at h1 h2
  split at h1
  · split at h2
    · exact p i v u h1 h2
    · cases h2
  · cases h1
end L3
namespace L3
open PySem PySem.Spec PyProof.Rows L2
local macro_rules | `(tactic| wtm_at "sh") => `(tactic| conv => whnf)
theorem bestL_stay {l : List (Int × Int)} {x : Nat} {w : Int} (hw : (bestL l x).getLast? = some w) : ∀ (d : Nat), (∀ j : Int, x < j → j ≤ x + d → lessM l w j = false) → bestL l (x + d) = bestL l x
  | 0, _ => rfl
  | d + 1, h => by
    have ih := bestL_stay hw d fun j h1 h2 => h j h1 (by omega)
    show bestS l (bestL l (x + d)) ((x + d + 1 : Nat) : Int) = _
    rw [ih]
    refine if_neg fun hc => ?_
    rcases hc with hc | ⟨v, hv, hl⟩
    · rw [hc] at hw; cases hw
    · rw [hw] at hv
      cases hv
      rw [h _ (by omega) (by omega)] at hl
      cases hl
theorem bestL_jump {l : List (Int × Int)} {x y : Nat} {w : Int} (hw : (bestL l x).getLast? = some w) (hxy : x < y) (h : ∀ j : Int, x < j → j < y → lessM l w j = false) (k : lessM l w y = true) : bestL l y = bestL l x ++ [(y : Int)] := by
  obtain ⟨d, rfl⟩ : ∃ d, y = x + d + 1 := ⟨y - x - 1, by omega⟩
  have st := bestL_stay hw d fun j h1 h2 => h j h1 (by omega)
  show bestS l (bestL l (x + d)) _ = _
  rw [st]
  exact if_pos (.inr ⟨w, hw, k⟩)
/-- what found holds when a number is pushed -/
theorem Cf.push {A B h n be re : Int} (hB : 0 < B) (ok : OkA [(A, B)]) (c : Cf (inL A B).1 (inL A B).2 h n be re) (hh : 1 ≤ h) (hn : h < n) (hw : (bestL [(A, B)] h.toNat).getLast? = some h) : bestL [(A, B)] n.toNat = bestL [(A, B)] h.toNat ++ [n] := by
  have hb := (inL_pos (A := A) hB).1
  have en : ((n.toNat : Nat) : Int) = n := Int.toNat_of_nonneg (by omega)
  have eh : ((h.toNat : Nat) : Int) = h := Int.toNat_of_nonneg (by omega)
  have nr := c.near hb
  have rb := c.rb
  have := bestL_jump (l := [(A, B)]) (x := h.toNat) (y := n.toNat) (w := h) hw (by omega) (fun j h1 h2 => by
    rw [lessM_one hB ok]
    have := c.far hb hh (j := j) (by omega) (by omega)
    exact decide_eq_false (by omega)) (by
    rw [lessM_one hB ok, en]
    have := c.far hb hh (j := h) (by omega) (by omega)
    exact decide_eq_true (by omega))
  rw [en] at this
  exact this
end L3
namespace L3
open PySem PySem.Spec PyProof.Rows L2
local macro_rules | `(tactic| wtm_at "sh") => `(tactic| conv => whnf)
end L3
namespace L3
open PySem PySem.Spec PyProof.Rows L2
local macro_rules | `(tactic| wtm_at "sh") => `(tactic| conv => whnf)
theorem cut_one {α : Type} {l : List α} (h : 0 < l.length) : cutL l (some 1) none = l.drop 1 := by
  unfold cutL
  rw [HT.sIx_none, show HT.sIx l.length 0 (some (1 : Int)) = min 1 l.length from HT.sIx_nat _ 0 1, Nat.min_eq_left h]
  rw [List.take_of_length_le (by rw [List.length_drop]; exact Nat.le_refl _)]
end L3
namespace L3
open PySem PySem.Spec PyProof.Rows L2
local macro_rules | `(tactic| wtm_at "sh") => `(tactic| conv => whnf)
end L3
namespace L3
open PySem PySem.Spec PyProof.Rows L2
local macro_rules | `(tactic| wtm_at "sh") => `(tactic| conv => whnf)
end L3
namespace L3
open PySem PySem.Spec PyProof.Rows L2 TL
local macro_rules | `(tactic| wtm_at "sh") => `(tactic| conv => whnf)
/-! ## numbers as texts -/
theorem get_fun {α β : Type} {f : α → β} {l : List α} {i : Nat} {x : β} (h : (l.map f)[i]? = some x) : ∃ c, l[i]? = some c ∧ x = f c := by
  rw [List.getElem?_map] at h
  cases e : l[i]? with
  | none => rw [e] at h; cases h
  | some c => rw [e] at h; exact ⟨c, rfl, (Option.some.inj h).symm⟩
end L3
namespace L3
open PySem PySem.Spec PyProof.Rows L2 TL
local macro_rules | `(tactic| wtm_at "sh") => `(tactic| conv => whnf)
end L3
namespace L3
open PySem PySem.Spec PyProof.Rows L2 TL
local macro_rules | `(tactic| wtm_at "sh") => `(tactic| conv => whnf)
end L3
namespace L3
open PySem PySem.Spec PyProof.Rows L2 TL
local macro_rules | `(tactic| wtm_at "sh") => `(tactic| conv => whnf)
/-! ## one miss seen otherwise -/
end L3
namespace L3
open PySem PySem.Spec PyProof.Rows L2 TL
local macro_rules | `(tactic| wtm_at "sh") => `(tactic| conv => whnf)
end L3
namespace L3
open PySem PySem.Spec PyProof.Rows L2 TL
local macro_rules | `(tactic| wtm_at "sh") => `(tactic| conv => whnf)
/-- fractions as small as the law makes them -/
def AskS (l : List (Int × Int)) : Prop := l ≠ [] ∧ l.length ≤ 3 ∧ ∀ p ∈ l, 0 < p.2 ∧ p.2 ≤ 10000000000000000 ∧ 0 ≤ p.1 ∧ p.1 ≤ 10000000000000000
theorem szB {x : Int} (h0 : -100000000000000000000000000000 ≤ x) (h1 : x ≤ 100000000000000000000000000000) : Sz 2000 x := by
  unfold Sz; exact Nat.lt_of_lt_of_le (show x.natAbs < 2 ^ 100 by omega) (Nat.pow_le_pow_right (by decide) (by decide))
theorem AskS.ok {l : List (Int × Int)} (h : AskS l) : OkA l := fun p hp => by
  obtain ⟨h1, h2, h3, h4⟩ := h.2.2 p hp
  exact ⟨h1, szB (by omega) (by omega), szB (by omega) (by omega)⟩
theorem zip_at {α β : Type} {f : α → PyData} {g : β → PyData} {l : List α} {m : List β} {i : Nat} {x : PyData} (h : (zipD (l.map f) (m.map g))[i]? = some x) : ∃ p t, l[i]? = some p ∧ m[i]? = some t ∧ x = .tuple [f p, g t] := by
  unfold zipD at h
  rw [List.getElem?_zipWith, List.getElem?_map, List.getElem?_map] at h
  cases e1 : l[i]? with
  | none => rw [e1] at h; cases h
  | some y =>
    cases e2 : m[i]? with
    | none => rw [e1, e2] at h; cases h
    | some z => rw [e1, e2] at h; exact ⟨y, z, rfl, rfl, (Option.some.inj h).symm⟩
theorem fz_own (p : Addr) {α : Type} (f : α → PyData) (l : List α) : fz (T.own p (l.map fun x => T.d (f x))) = .list (l.map f) := by
  show PyData.list (fzs (l.map fun x => T.d (f x))) = _
  rw [fzs_map]
/-! ### under a common number below -/
end L3
namespace L3
open PySem PySem.Spec PyProof.Rows L2 TL
local macro_rules | `(tactic| wtm_at "sh") => `(tactic| conv => whnf)
/-! ## the best ones seen otherwise -/
/-- a comprehension whose items tell data, one for each -/
theorem lc_gen {items : List PyData} (out : List PyData) (hlen : out.length = items.length) (hsz : items.length ≤ sizeLine) {r1 : Rho} {js : List Nat} {g : TG3} {te : TE3} {Fin : Addr → List T → Rho → Prop}
    (turn : ∀ r0, wp r1 js = r0 → ∀ (i : Nat) (x y : PyData), items[i]? = some x → out[i]? = some y → ∀ (R : T → Rho → Prop) (S : Rho → Prop), (∀ r4, wp r4 js = r0 → R (.d y) r4) → g (.d x) r0 fun r2 => xYes r2 fun b r3 => (b = true → te r3 R) ∧ (b = false → S r3))
    (fin : ∀ r0, wp r1 js = r0 → ∀ p, Fin p (out.map T.d) r0) :
    ∀ p, ∃ W : Nat → List T → Rho → Prop, W 0 [] (wp r1 js) ∧
      (∀ (i : Nat) (x : PyData) (acc : List T) (r : Rho), items[i]? = some x → W i acc r → g (.d x) r fun r2 => xYes r2 fun b r3 => (b = true → te r3 fun y r4 => acc.length < sizeLine ∧ W (i + 1) (acc ++ [y]) (wp r4 js)) ∧ (b = false → W (i + 1) acc (wp r3 js))) ∧
      ∀ acc r, W items.length acc r → Fin p acc r := fun p => by
  refine ⟨fun i acc r => r = wp r1 js ∧ acc = (out.take i).map T.d, ⟨rfl, rfl⟩, fun i x acc r hx hW => ?_, fun acc r hW => ?_⟩
  · obtain ⟨rfl, rfl⟩ := hW
    have hi : i < items.length := (List.getElem?_eq_some_iff.mp hx).1
    have ho : out[i]? = some out[i] := List.getElem?_eq_getElem (by omega)
    exact turn _ rfl i x _ hx ho _ _ fun r4 e => ⟨by rw [List.length_map, List.length_take]; omega, e, by rw [take_succ ho, List.map_append]; rfl⟩
  · obtain ⟨rfl, rfl⟩ := hW
    rw [← hlen, List.take_length]
    exact fin _ rfl p
theorem fz_outs (p : Addr) (out : List PyData) : fz (T.own p (out.map T.d)) = .list out := by
  show PyData.list (fzs _) = _
  rw [fzs_d]
theorem get_map2 {α β : Type} {f : α → β} {l : List α} {i : Nat} {u : α} {y : β} (h : (l.map f)[i]? = some y) (e : l[i]? = some u) : y = f u := by
  rw [List.getElem?_map, e] at h
  exact (Option.some.inj h).symm
def AskV (l : List (Int × Int)) : Prop := l ≠ [] ∧ l.length ≤ 3 ∧ ∀ p ∈ l, 0 < p.2 ∧ p.2 ≤ 100000000000000000 ∧ 0 ≤ p.1 ∧ p.1 ≤ 100000000000000000
theorem AskV.ok {l : List (Int × Int)} (h : AskV l) : OkA l := fun p hp => by
  obtain ⟨h1, h2, h3, h4⟩ := h.2.2 p hp
  exact ⟨h1, szB (by omega) (by omega), szB (by omega) (by omega)⟩
theorem zipD_len {l m : List PyData} : (zipD l m).length = min l.length m.length := List.length_zipWith
end L3
namespace L3
open PySem PySem.Spec PyProof.Rows L2 TL
local macro_rules | `(tactic| wtm_at "sh") => `(tactic| conv => whnf)
/-! ## refusals -/
/-- askings so small that all can be asked of them -/
def SmallA (l : List (Int × Int)) : Prop := l ≠ [] ∧ l.length ≤ 3 ∧ ∀ p ∈ l, 0 < p.2 ∧ p.2 ≤ 14 ∧ -1000000000000000000000 ≤ p.1 ∧ p.1 ≤ 1000000000000000000000
theorem SmallA.ok {l : List (Int × Int)} (h : SmallA l) : OkA l := fun p hp => by
  obtain ⟨h1, h2, h3, h4⟩ := h.2.2 p hp
  exact ⟨h1, szB (by omega) (by omega), szB (by omega) (by omega)⟩
end L3
namespace L3
open PySem PySem.Spec PyProof.Rows L2 TL
local macro_rules | `(tactic| wtm_at "sh") => `(tactic| conv => whnf)
theorem cut_take {α : Type} {l : List α} {n : Nat} (h : n ≤ l.length) : cutL l none (some (n : Int)) = l.take n := by
  unfold cutL
  rw [show HT.sIx l.length 0 none = 0 from rfl, HT.sIx_nat, Nat.min_eq_left h, Nat.sub_zero, List.drop_zero]
theorem cut_drop {α : Type} {l : List α} {n : Nat} (h : n ≤ l.length) : cutL l (some (n : Int)) none = l.drop n := by
  unfold cutL
  rw [HT.sIx_none, HT.sIx_nat, Nat.min_eq_left h, List.take_of_length_le (by rw [List.length_drop]; exact Nat.le_refl _)]
theorem nvs_append : ∀ (l m : List T), nvs (l ++ m) = (nvs l && nvs m)
  | [], m => by simp [nvs]
  | t :: l, m => by simp only [List.cons_append, nvs, nvs_append l m, Bool.and_assoc]
abbrev st2 (a : Addr) (ns : List Int) (dk : Addr) (l : List T) (s2 s3 s4 s5 s6 s7 s8 s9 : Option T) : Rho := [some (.sc a ns), some (.own dk l), s2, s3, s4, s5, s6, s7, s8, s9, none, none, none, none, none]
end L3
namespace L3
/-! ## determinants, as the law reckons them -/
def sumR : Nat → (Nat → Int) → Int
  | 0, _ => 0
  | m + 1, f => sumR m f + f m
theorem sumR_congr {f g : Nat → Int} : ∀ {m : Nat}, (∀ k, k < m → f k = g k) → sumR m f = sumR m g
  | 0, _ => rfl
  | m + 1, h => by
    show sumR m f + f m = sumR m g + g m
    rw [sumR_congr (fun k hk => h k (by omega)), h m (by omega)]
theorem sumR_lin {f g : Nat → Int} (c : Int) : ∀ m, sumR m (fun k => f k + c * g k) = sumR m f + c * sumR m g
  | 0 => by simp [sumR]
  | m + 1 => by
    show sumR m (fun k => f k + c * g k) + (f m + c * g m) = sumR m f + f m + c * (sumR m g + g m)
    rw [sumR_lin c m]; grind
theorem sumR_zero {f : Nat → Int} : ∀ {m : Nat}, (∀ k, k < m → f k = 0) → sumR m f = 0
  | 0, _ => rfl
  | m + 1, h => by
    show sumR m f + f m = 0
    rw [sumR_zero (fun k hk => h k (by omega)), h m (by omega)]; rfl
def sg (k : Nat) : Int := if k % 2 = 0 then 1 else -1
abbrev Mat := List (List Int)
def minor (k : Nat) (rows : Mat) : Mat := rows.map fun r => r.eraseIdx k
def detN : Nat → Mat → Int
  | 0, _ => 1
  | _ + 1, [] => 1
  | n + 1, r :: rest => sumR (n + 1) fun k => r.getD k 0 * sg k * detN n (minor k rest)
/-- so many rows of so many numbers -/
def Sq (m n : Nat) (rows : Mat) : Prop := rows.length = m ∧ ∀ r ∈ rows, r.length = n
theorem Sq.tail {m n : Nat} {r : List Int} {rows : Mat} (h : Sq (m + 1) n (r :: rows)) : r.length = n ∧ Sq m n rows :=
  ⟨h.2 r (by simp), by simpa using h.1, fun x hx => h.2 x (List.mem_cons_of_mem _ hx)⟩
theorem Sq.minor {m n k : Nat} {rows : Mat} (h : Sq m (n + 1) rows) (hk : k < n + 1) : Sq m n (minor k rows) :=
  ⟨by unfold L3.minor; rw [List.length_map]; exact h.1, fun r hr => by
    obtain ⟨x, hx, rfl⟩ := List.mem_map.mp hr
    rw [List.length_eraseIdx, h.2 x hx, if_pos hk]; rfl⟩
theorem Sq.set {m n i : Nat} {rows : Mat} {x : List Int} (h : Sq m n rows) (hx : x.length = n) : Sq m n (rows.set i x) :=
  ⟨by rw [List.length_set]; exact h.1, fun r hr => by
    rcases List.mem_or_eq_of_mem_set hr with h1 | rfl
    · exact h.2 r h1
    · exact hx⟩
/-- x + m y -/
def vAdd (x : List Int) (m : Int) (y : List Int) : List Int := List.zipWith (fun a b => a + m * b) x y
theorem vAdd_len {x y : List Int} {m : Int} {n : Nat} (hx : x.length = n) (hy : y.length = n) : (vAdd x m y).length = n := by
  unfold vAdd; rw [List.length_zipWith]; omega
theorem zipWith_erase (f : Int → Int → Int) : ∀ (x y : List Int) (k : Nat), x.length = y.length → (List.zipWith f x y).eraseIdx k = List.zipWith f (x.eraseIdx k) (y.eraseIdx k)
  | [], [], _, _ => by simp
  | a :: x, b :: y, 0, h => by simp
  | a :: x, b :: y, k + 1, h => by
    simp only [List.zipWith_cons_cons, List.eraseIdx_cons_succ, zipWith_erase f x y k (by simpa using h)]
theorem vAdd_get {x y : List Int} {m : Int} {k : Nat} (hx : k < x.length) (hy : k < y.length) : (vAdd x m y).getD k 0 = x.getD k 0 + m * y.getD k 0 := by
  unfold vAdd
  rw [List.getD_eq_getElem?_getD, List.getD_eq_getElem?_getD, List.getD_eq_getElem?_getD, List.getElem?_zipWith, List.getElem?_eq_getElem hx, List.getElem?_eq_getElem hy]
  rfl
theorem minor_set {rows : Mat} {i k : Nat} {x : List Int} : minor k (rows.set i x) = (minor k rows).set i (x.eraseIdx k) := by
  unfold minor
  rw [List.map_set]
theorem det_lin : ∀ (n : Nat) (rows : Mat) (i : Nat) (x y : List Int) (m : Int), Sq n n rows → i < n → x.length = n → y.length = n → detN n (rows.set i (vAdd x m y)) = detN n (rows.set i x) + m * detN n (rows.set i y)
  | 0, _, i, _, _, _, _, h, _, _ => by omega
  | n + 1, [], _, _, _, _, h, _, _, _ => by have := h.1; simp at this
  | n + 1, r :: rest, 0, x, y, m, h, _, hx, hy => by
    show sumR (n + 1) (fun k => (vAdd x m y).getD k 0 * sg k * detN n (minor k rest)) = sumR (n + 1) (fun k => x.getD k 0 * sg k * detN n (minor k rest)) + m * sumR (n + 1) (fun k => y.getD k 0 * sg k * detN n (minor k rest))
    rw [← sumR_lin]
    refine sumR_congr fun k hk => ?_
    rw [vAdd_get (by omega) (by omega)]
    grind
  | n + 1, r :: rest, i + 1, x, y, m, h, hi, hx, hy => by
    obtain ⟨hr, ht⟩ := h.tail
    show sumR (n + 1) (fun k => r.getD k 0 * sg k * detN n (minor k (rest.set i (vAdd x m y)))) = sumR (n + 1) (fun k => r.getD k 0 * sg k * detN n (minor k (rest.set i x))) + m * sumR (n + 1) (fun k => r.getD k 0 * sg k * detN n (minor k (rest.set i y)))
    rw [← sumR_lin]
    refine sumR_congr fun k hk => ?_
    have e : minor k (rest.set i (vAdd x m y)) = (minor k rest).set i (vAdd (x.eraseIdx k) m (y.eraseIdx k)) := by
      rw [minor_set]
      unfold vAdd
      rw [zipWith_erase _ _ _ _ (by omega)]
    rw [e, det_lin n (minor k rest) i _ _ m (ht.minor hk) (by omega) (by rw [List.length_eraseIdx, hx, if_pos hk]; rfl) (by rw [List.length_eraseIdx, hy, if_pos hk]; rfl), minor_set, minor_set]
    grind
theorem len2 {r : List Int} (h : r.length = 2) : ∃ a b, r = [a, b] := by
  match r, h with | [a, b], _ => exact ⟨a, b, rfl⟩
theorem len3 {r : List Int} (h : r.length = 3) : ∃ a b c, r = [a, b, c] := by
  match r, h with | [a, b, c], _ => exact ⟨a, b, c, rfl⟩
theorem len4 {r : List Int} (h : r.length = 4) : ∃ a b c d, r = [a, b, c, d] := by
  match r, h with | [a, b, c, d], _ => exact ⟨a, b, c, d, rfl⟩
theorem alt01 : ∀ (n : Nat) (r : List Int) (rest : Mat), n ≤ 4 → Sq n n (r :: r :: rest) → detN n (r :: r :: rest) = 0
  | 0, r, rest, _, h => by have := h.1; simp at this
  | 1, r, rest, _, h => by have := h.1; simp at this
  | 2, r, rest, _, h => by
    obtain ⟨a, b, rfl⟩ := len2 (h.2 r (by simp))
    have hl : rest = [] := by have := h.1; simpa using this
    subst hl
    simp [detN, sumR, minor, sg]
    grind
  | 3, r, rest, _, h => by
    obtain ⟨a, b, c, rfl⟩ := len3 (h.2 r (by simp))
    have hl : rest.length = 1 := by have := h.1; simpa using this
    match rest, hl with
    | [x], _ =>
      obtain ⟨d, e, f, rfl⟩ := len3 (h.2 x (by simp))
      simp [detN, sumR, minor, sg]
      grind
  | 4, r, rest, _, h => by
    obtain ⟨a, b, c, d, rfl⟩ := len4 (h.2 r (by simp))
    have hl : rest.length = 2 := by have := h.1; simpa using this
    match rest, hl with
    | [x, y], _ =>
      obtain ⟨e, f, g, i, rfl⟩ := len4 (h.2 x (by simp))
      obtain ⟨j, k, l, m, rfl⟩ := len4 (h.2 y (by simp))
      simp [detN, sumR, minor, sg]
      grind
  | n + 5, _, _, h, _ => by omega
/-- from linear and alternating in two rows: their exchange turns the sign -/
theorem swap_of {n : Nat} {i j : Nat} (hij : i ≠ j) (hi : i < n) (hj : j < n) (alt : ∀ (rows : Mat) (x : List Int), Sq n n rows → rows[i]? = some x → rows[j]? = some x → detN n rows = 0)
    {rows : Mat} {x y : List Int} (h : Sq n n rows) (hx : x.length = n) (hy : y.length = n) : detN n ((rows.set i x).set j y) = - detN n ((rows.set i y).set j x) := by
  have s1 : ∀ {a b : List Int}, a.length = n → b.length = n → Sq n n ((rows.set i a).set j b) := fun {a b} ha hb => (h.set ha).set hb
  have hl := h.1
  have g : ∀ (a : List Int), ((rows.set i a).set j a)[i]? = some a ∧ ((rows.set i a).set j a)[j]? = some a := fun a => ⟨by
    rw [List.getElem?_set_ne (Ne.symm hij), List.getElem?_set_self (by omega)], by
    rw [List.getElem?_set_self (by rw [List.length_set]; omega)]⟩
  have z : ∀ a : List Int, a.length = n → detN n ((rows.set i a).set j a) = 0 := fun a ha => alt _ a (s1 ha ha) (g a).1 (g a).2
  have hv : (vAdd x 1 y).length = n := vAdd_len hx hy
  have e0 := z (vAdd x 1 y) hv
  rw [det_lin n (rows.set i (vAdd x 1 y)) j x y 1 (h.set hv) hj hx hy] at e0
  have c : ∀ (a b : List Int), (rows.set i a).set j b = (rows.set j b).set i a := fun a b => List.set_comm _ _ hij
  rw [c, c, det_lin n (rows.set j x) i x y 1 (h.set hx) hi hx hy, det_lin n (rows.set j y) i x y 1 (h.set hy) hi hx hy, ← c, ← c, ← c, ← c, z x hx, z y hy] at e0
  omega
theorem set_same {rows : Mat} {i : Nat} {x : List Int} (h : rows[i]? = some x) : rows.set i x = rows := by
  obtain ⟨hlt, e⟩ := List.getElem?_eq_some_iff.mp h
  rw [← e]
  exact List.set_getElem_self hlt
theorem det_alt : ∀ (n : Nat) (i j : Nat) (rows : Mat) (x : List Int), n ≤ 4 → Sq n n rows → i < j → rows[i]? = some x → rows[j]? = some x → detN n rows = 0
  | 0, i, j, rows, x, _, h, hij, hi, hj => by
    have := h.1
    have := (List.getElem?_eq_some_iff.mp hj).1
    omega
  | n + 1, i, j, [], x, _, h, _, hi, _ => by simp at hi
  | n + 1, i + 1, j, r :: rest, x, h4, h, hij, hi, hj => by
    obtain ⟨hr, ht⟩ := h.tail
    obtain ⟨j, rfl⟩ : ∃ j', j = j' + 1 := ⟨j - 1, by omega⟩
    show sumR (n + 1) (fun k => r.getD k 0 * sg k * detN n (minor k rest)) = 0
    refine sumR_zero fun k hk => ?_
    have e : ∀ m, (r :: rest)[m + 1]? = some x → (minor k rest)[m]? = some (x.eraseIdx k) := fun m hm => by
      have hm' : rest[m]? = some x := by simpa using hm
      unfold minor
      rw [List.getElem?_map, hm']
      rfl
    rw [det_alt n i j (minor k rest) (x.eraseIdx k) (by omega) (ht.minor hk) (by omega) (e i hi) (e j hj), Int.mul_zero]
  | n + 1, 0, j, r :: rest, x, h4, h, hij, hi, hj => by
    have hr : r = x := by simpa using hi
    subst hr
    match rest, j, hij, hj, h with
    | [], j, hij, hj, h =>
      have := (List.getElem?_eq_some_iff.mp hj).1
      simp at this
      omega
    | s :: rest, 1, _, hj, h =>
      have : s = r := by simpa using hj
      subst this
      exact alt01 _ _ _ h4 h
    | s :: rest, j + 2, _, hj, h =>
      have hs : s.length = n + 1 := h.2 s (by simp)
      have hr : r.length = n + 1 := h.2 r (by simp)
      have hjl : j + 2 < (r :: s :: rest).length := (List.getElem?_eq_some_iff.mp hj).1
      have hl := h.1
      have sw := swap_of (n := n + 1) (i := 1) (j := j + 2) (by omega) (by omega) (by omega) (fun rows x hq h1 h2 => by
        match rows, hq, h1, h2 with
        | [], hq, h1, h2 => simp at h1
        | r0 :: rows, hq, h1, h2 =>
          obtain ⟨hr0, ht⟩ := hq.tail
          show sumR (n + 1) (fun k => r0.getD k 0 * sg k * detN n (minor k rows)) = 0
          refine sumR_zero fun k hk => ?_
          have e : ∀ m, (r0 :: rows)[m + 1]? = some x → (minor k rows)[m]? = some (x.eraseIdx k) := fun m hm => by
            have hm' : rows[m]? = some x := by simpa using hm
            unfold minor
            rw [List.getElem?_map, hm']
            rfl
          rw [det_alt n 0 (j + 1) (minor k rows) (x.eraseIdx k) (by omega) (ht.minor hk) (by omega) (e 0 h1) (e (j + 1) h2), Int.mul_zero]) h (x := s) (y := r) hs hr
      have e1 : ((r :: s :: rest).set 1 s).set (j + 2) r = r :: s :: rest := by
        rw [show (r :: s :: rest).set 1 s = r :: s :: rest from rfl]
        exact set_same hj
      have e2 : ((r :: s :: rest).set 1 r).set (j + 2) s = r :: r :: rest.set j s := rfl
      rw [e1, e2, alt01 (n + 1) r (rest.set j s) h4 (by
        have q := (h.set (i := 1) hr).set (i := j + 2) hs
        rw [e2] at q
        exact q)] at sw
      omega
theorem det_alt' {n i j : Nat} {rows : Mat} {x : List Int} (h4 : n ≤ 4) (h : Sq n n rows) (hij : i ≠ j) (hi : rows[i]? = some x) (hj : rows[j]? = some x) : detN n rows = 0 := by
  rcases Nat.lt_or_gt_of_ne hij with c | c
  · exact det_alt n i j rows x h4 h c hi hj
  · exact det_alt n j i rows x h4 h c hj hi
/-- two rows exchanged -/
theorem det_swap {n i j : Nat} {rows : Mat} {x y : List Int} (h4 : n ≤ 4) (h : Sq n n rows) (hij : i ≠ j) (hi : rows[i]? = some x) (hj : rows[j]? = some y) : detN n ((rows.set i y).set j x) = - detN n rows := by
  have hil := (List.getElem?_eq_some_iff.mp hi).1
  have hjl := (List.getElem?_eq_some_iff.mp hj).1
  have hl := h.1
  have e := swap_of hij (show i < n by omega) (show j < n by omega) (fun rows x hq h1 h2 => det_alt' h4 hq hij h1 h2) h (x := y) (y := x) (h.2 y (List.mem_of_getElem? hj)) (h.2 x (List.mem_of_getElem? hi))
  rw [e, set_same hi, set_same hj]
/-- so many times another row put to one -/
theorem det_add {n i j : Nat} {rows : Mat} {x y : List Int} (m : Int) (h4 : n ≤ 4) (h : Sq n n rows) (hij : i ≠ j) (hi : rows[i]? = some x) (hj : rows[j]? = some y) : detN n (rows.set i (vAdd x m y)) = detN n rows := by
  have hil := (List.getElem?_eq_some_iff.mp hi).1
  have hl := h.1
  have hx := h.2 x (List.mem_of_getElem? hi)
  have hy := h.2 y (List.mem_of_getElem? hj)
  rw [det_lin n rows i x y m h (by omega) hx hy, set_same hi, det_alt' (x := y) h4 (h.set hy) hij (by rw [List.getElem?_set_self hil]) (by rw [List.getElem?_set_ne hij]; exact hj), Int.mul_zero, Int.add_zero]
/-- a row so many times -/
theorem det_scale {n i : Nat} {rows : Mat} {x : List Int} (m : Int) (h : Sq n n rows) (hi : i < n) (hx : x.length = n) : detN n (rows.set i (x.map (m * ·))) = m * detN n (rows.set i x) := by
  have e : x.map (m * ·) = vAdd x (m - 1) x := by
    unfold vAdd
    rw [List.zipWith_self]
    exact List.map_congr_left fun a _ => by grind
  rw [e, det_lin n rows i x x (m - 1) h hi hx hx]
  grind
/-! ### what rows span; rows of steps -/
inductive Span (n : Nat) (rows : Mat) : List Int → Prop
  | zero : Span n rows (List.replicate n 0)
  | add {x r : List Int} (m : Int) : Span n rows x → r ∈ rows → Span n rows (vAdd x m r)
theorem Span.len {m n : Nat} {rows : Mat} (h : Sq m n rows) {x : List Int} (s : Span n rows x) : x.length = n := by
  induction s with
  | zero => simp
  | add k _ hr ih => exact vAdd_len ih (h.2 _ hr)
theorem vAdd_zero {n : Nat} {x : List Int} {m : Int} (h : x.length = n) : vAdd x m (List.replicate n 0) = x := by
  unfold vAdd
  refine List.ext_getElem (by rw [List.length_zipWith, List.length_replicate]; omega) fun i h1 h2 => ?_
  rw [List.getElem_zipWith, List.getElem_replicate]
  omega
theorem zero_vAdd {n : Nat} {x : List Int} (h : x.length = n) : vAdd (List.replicate n 0) 1 x = x := by
  unfold vAdd
  refine List.ext_getElem (by rw [List.length_zipWith, List.length_replicate]; omega) fun i h1 h2 => ?_
  rw [List.getElem_zipWith, List.getElem_replicate]
  omega
theorem vAdd_assoc {n : Nat} {x y z : List Int} {k m : Int} (hx : x.length = n) (hy : y.length = n) (hz : z.length = n) : vAdd x k (vAdd y m z) = vAdd (vAdd x k y) (k * m) z := by
  unfold vAdd
  refine List.ext_getElem (by simp only [List.length_zipWith]; omega) fun i h1 h2 => ?_
  simp only [List.getElem_zipWith]
  grind
theorem Span.of_mem {m n : Nat} {rows : Mat} (h : Sq m n rows) {r : List Int} (hr : r ∈ rows) : Span n rows r := by
  rw [← zero_vAdd (h.2 r hr)]
  exact .add 1 .zero hr
theorem Span.vadd {m n : Nat} {rows : Mat} (h : Sq m n rows) {x y : List Int} (sx : Span n rows x) (k : Int) (sy : Span n rows y) : Span n rows (vAdd x k y) := by
  induction sy with
  | zero => rw [vAdd_zero (sx.len h)]; exact sx
  | add c sy hr ih =>
    rw [vAdd_assoc (sx.len h) (sy.len h) (h.2 _ hr)]
    exact .add _ ih hr
theorem Span.trans {m m' n : Nat} {rows rows' : Mat} (h : Sq m n rows) (h' : Sq m' n rows') (hr : ∀ r ∈ rows', Span n rows r) {x : List Int} (s : Span n rows' x) : Span n rows x := by
  induction s with
  | zero => exact .zero
  | add k _ hm ih => exact ih.vadd h k (hr _ hm)
/-- by determinants: what is spanned is told by whole numbers -/
theorem Span.dvd {n : Nat} {rows : Mat} (h4 : n ≤ 4) (h : Sq n n rows) {x : List Int} (s : Span n rows x) {i : Nat} (hi : i < n) : detN n rows ∣ detN n (rows.set i x) := by
  have hl := h.1
  induction s with
  | zero =>
    have e : (List.replicate n (0 : Int)) = (List.replicate n (0 : Int)).map (0 * ·) := by simp
    rw [e, det_scale 0 h hi (by simp), Int.zero_mul]
    exact Int.dvd_zero _
  | @add x r k sx hr ih =>
    rw [det_lin n rows i x r k h hi (sx.len h) (h.2 r hr)]
    refine Int.dvd_add ih (Int.dvd_mul_of_dvd_right ?_)
    obtain ⟨j, hj⟩ := List.getElem?_of_mem hr
    by_cases e : i = j
    · subst e
      rw [set_same hj]
      exact Int.dvd_refl _
    · rw [det_alt' (x := r) h4 (h.set (h.2 r hr)) e (by rw [List.getElem?_set_self (by omega)]) (by rw [List.getElem?_set_ne e]; exact hj)]
      exact Int.dvd_zero _
theorem get_erase (r : List Int) (k c : Nat) : (r.eraseIdx k).getD c 0 = if c < k then r.getD c 0 else r.getD (c + 1) 0 := by
  rw [List.getD_eq_getElem?_getD, List.getElem?_eraseIdx]
  split <;> rw [List.getD_eq_getElem?_getD]
theorem det_col0 : ∀ (n : Nat) (rows : Mat), 0 < n → Sq n n rows → (∀ r ∈ rows, r.getD 0 0 = 0) → detN n rows = 0
  | 0, _, h, _, _ => by omega
  | n + 1, [], _, h, _ => by have := h.1; simp at this
  | n + 1, r :: rest, _, h, hz => by
    obtain ⟨hr, ht⟩ := h.tail
    show sumR (n + 1) (fun k => r.getD k 0 * sg k * detN n (minor k rest)) = 0
    refine sumR_zero fun k hk => ?_
    by_cases h0 : k = 0
    · subst h0
      rw [hz r (by simp), Int.zero_mul, Int.zero_mul]
    · rw [det_col0 n (minor k rest) (by omega) (ht.minor hk) (fun x hx => by
        obtain ⟨y, hy, rfl⟩ := List.mem_map.mp hx
        rw [get_erase, if_pos (by omega)]
        exact hz y (List.mem_cons_of_mem _ hy)), Int.mul_zero]
/-- noughts below the diagonal -/
def Tri (o : Nat) (rows : Mat) : Prop := ∀ (i : Nat) (r : List Int), rows[i]? = some r → ∀ c, c < o + i → r.getD c 0 = 0
/-- the product of the diagonal, from the place o on -/
def prodD : Nat → Mat → Int
  | _, [] => 1
  | o, r :: rows => r.getD o 0 * prodD (o + 1) rows
theorem prodD_minor : ∀ (o : Nat) (rows : Mat), prodD o (minor 0 rows) = prodD (o + 1) rows
  | _, [] => rfl
  | o, r :: rows => by
    show (r.eraseIdx 0).getD o 0 * prodD (o + 1) (minor 0 rows) = r.getD (o + 1) 0 * prodD (o + 1 + 1) rows
    rw [prodD_minor (o + 1) rows, get_erase, if_neg (by omega)]
theorem det_tri : ∀ (n : Nat) (rows : Mat), Sq n n rows → Tri 0 rows → detN n rows = prodD 0 rows
  | 0, [], _, _ => rfl
  | 0, r :: rows, h, _ => by have := h.1; simp at this
  | n + 1, [], h, _ => by have := h.1; simp at this
  | n + 1, r :: rest, h, ht => by
    obtain ⟨hr, hs⟩ := h.tail
    have key : ∀ m, m ≤ n → sumR (m + 1) (fun k => r.getD k 0 * sg k * detN n (minor k rest)) = r.getD 0 0 * detN n (minor 0 rest) := by
      intro m
      induction m with
      | zero =>
        intro _
        show (0 : Int) + r.getD 0 0 * sg 0 * detN n (minor 0 rest) = _
        rw [show sg 0 = 1 from rfl]
        grind
      | succ m ih =>
        intro hm
        show sumR (m + 1) _ + r.getD (m + 1) 0 * sg (m + 1) * detN n (minor (m + 1) rest) = _
        rw [ih (by omega), det_col0 n (minor (m + 1) rest) (by omega) (hs.minor (by omega)) (fun x hx => by
          obtain ⟨y, hy, rfl⟩ := List.mem_map.mp hx
          rw [get_erase, if_pos (by omega)]
          obtain ⟨i, hi⟩ := List.getElem?_of_mem hy
          exact ht (i + 1) y (by simpa using hi) 0 (by omega)), Int.mul_zero, Int.add_zero]
    show sumR (n + 1) (fun k => r.getD k 0 * sg k * detN n (minor k rest)) = r.getD 0 0 * prodD 1 rest
    rw [key n (Nat.le_refl _), det_tri n (minor 0 rest) (hs.minor (by omega)) (fun i x hx c hc => by
      unfold minor at hx
      rw [List.getElem?_map] at hx
      cases e : rest[i]? with
      | none => rw [e] at hx; cases hx
      | some y =>
        rw [e] at hx
        cases hx
        rw [get_erase, if_neg (by omega)]
        exact ht (i + 1) y (by simpa using e) (c + 1) (by omega)), prodD_minor]
end L3
namespace L3
open PySem PySem.Spec PyProof.Rows L2
local macro_rules | `(tactic| wtm_at "sh") => `(tactic| conv => whnf)
/-! ## rows in steps: the common measure's steps, and how far their numbers grow -/
theorem euc {x y : Int} (hy : y ≠ 0) : (x - x.fdiv y * y).natAbs < y.natAbs ∧ 0 ≤ y * (x - x.fdiv y * y) ∧ (x.fdiv y * y).natAbs + (x - x.fdiv y * y).natAbs ≤ x.natAbs + 2 * y.natAbs ∧ (0 ≤ x * y → (x.fdiv y * y).natAbs + (x - x.fdiv y * y).natAbs ≤ x.natAbs) := by
  have pos : ∀ {x y : Int}, 0 < y → (x - x.fdiv y * y).natAbs < y.natAbs ∧ 0 ≤ y * (x - x.fdiv y * y) ∧ (x.fdiv y * y).natAbs + (x - x.fdiv y * y).natAbs ≤ x.natAbs + 2 * y.natAbs ∧ (0 ≤ x * y → (x.fdiv y * y).natAbs + (x - x.fdiv y * y).natAbs ≤ x.natAbs) := fun {x y} hy => by
    rw [Int.fdiv_eq_ediv_of_nonneg x (by omega)]
    have e1 := Int.mul_ediv_add_emod x y
    have e2 := Int.emod_nonneg x (show y ≠ 0 by omega)
    have e3 := Int.emod_lt_of_pos x hy
    have e4 : x - x / y * y = x % y := by rw [Int.mul_comm]; omega
    rw [e4, Int.mul_comm (x / y) y]
    have e5 : 0 ≤ x → 0 ≤ y * (x / y) := fun h => Int.mul_nonneg (by omega) (Int.ediv_nonneg h (by omega))
    refine ⟨by omega, Int.mul_nonneg (by omega) e2, ?_, fun hxy => ?_⟩
    · rcases Int.lt_or_le x 0 with c | c
      · omega
      · have := e5 c; omega
    · rcases Int.lt_or_le x 0 with c | c
      · have := Int.mul_neg_of_neg_of_pos c hy
        omega
      · have := e5 c; omega
  rcases Int.lt_or_gt_of_ne hy with c | c
  · obtain ⟨h1, h2, h3, h4⟩ := pos (x := -x) (y := -y) (by omega)
    rw [Int.neg_fdiv_neg] at h1 h2 h3 h4
    have e : -x - x.fdiv y * -y = -(x - x.fdiv y * y) := by grind
    have e' : x.fdiv y * -y = -(x.fdiv y * y) := by grind
    rw [e] at h1 h2 h3 h4
    rw [e'] at h3 h4
    simp only [Int.natAbs_neg] at h1 h3 h4
    exact ⟨h1, by rw [Int.neg_mul_neg] at h2; exact h2, h3, fun h => h4 (by rw [Int.neg_mul_neg]; exact h)⟩
  · exact pos c
theorem euc_step {y u v m r : Int} {X : Nat} (h : (m * y).natAbs + r.natAbs ≤ X) : (u + -m * v).natAbs * y.natAbs + v.natAbs * r.natAbs ≤ u.natAbs * y.natAbs + v.natAbs * X := by
  have h1 : (u + -m * v).natAbs ≤ u.natAbs + m.natAbs * v.natAbs := by
    have := Int.natAbs_add_le u (-m * v)
    rw [Int.natAbs_mul, Int.natAbs_neg] at this
    exact this
  have h2 := Nat.mul_le_mul_right y.natAbs h1
  have h3 := Nat.mul_le_mul_left v.natAbs h
  rw [Int.natAbs_mul] at h3
  rw [Nat.add_mul] at h2
  have e : v.natAbs * (m.natAbs * y.natAbs + r.natAbs) = m.natAbs * v.natAbs * y.natAbs + v.natAbs * r.natAbs := by grind
  omega
def BdL (K : Nat) (U : List Int) : Prop := ∀ c, (U.getD c 0).natAbs ≤ K
/-- two rows between the common measure's steps -/
def PairInv (K pl : Nat) (U V : List Int) : Prop := 0 ≤ U.getD pl 0 * V.getD pl 0 ∧ U.getD pl 0 ≠ 0 ∧ ∀ c, (U.getD c 0).natAbs * (V.getD pl 0).natAbs + (V.getD c 0).natAbs * (U.getD pl 0).natAbs ≤ K
def PairFirst (K pl : Nat) (U V : List Int) : Prop := ∀ c, (U.getD c 0).natAbs * (V.getD pl 0).natAbs + (V.getD c 0).natAbs * ((U.getD pl 0).natAbs + 2 * (V.getD pl 0).natAbs) ≤ K
theorem getD_big {l : List Int} {c : Nat} (h : l.length ≤ c) : l.getD c 0 = 0 := by
  rw [List.getD_eq_getElem?_getD, List.getElem?_eq_none h]; rfl
theorem vAdd_getD {x y : List Int} {m : Int} (h : x.length = y.length) (c : Nat) : (vAdd x m y).getD c 0 = x.getD c 0 + m * y.getD c 0 := by
  by_cases hc : c < x.length
  · exact vAdd_get hc (by omega)
  · rw [getD_big (by rw [vAdd_len (n := x.length) rfl h.symm]; omega), getD_big (by omega), getD_big (by omega)]
    simp
theorem pair_step {K pl : Nat} {U V : List Int} (hl : U.length = V.length) (hU : BdL K U) (hV : BdL K V) (hy : V.getD pl 0 ≠ 0) (h : PairInv K pl U V ∨ PairFirst K pl U V) :
    PairInv K pl V (vAdd U (-((U.getD pl 0).fdiv (V.getD pl 0))) V) ∧ BdL K (vAdd U (-((U.getD pl 0).fdiv (V.getD pl 0))) V) ∧ ((vAdd U (-((U.getD pl 0).fdiv (V.getD pl 0))) V).getD pl 0).natAbs < (V.getD pl 0).natAbs := by
  obtain ⟨e1, e2, e3, e4⟩ := euc (x := U.getD pl 0) hy
  have er : (vAdd U (-((U.getD pl 0).fdiv (V.getD pl 0))) V).getD pl 0 = U.getD pl 0 - (U.getD pl 0).fdiv (V.getD pl 0) * V.getD pl 0 := by
    rw [vAdd_getD hl, Int.neg_mul]; omega
  have key : ∀ c, ((vAdd U (-((U.getD pl 0).fdiv (V.getD pl 0))) V).getD c 0).natAbs * (V.getD pl 0).natAbs + (V.getD c 0).natAbs * (U.getD pl 0 - (U.getD pl 0).fdiv (V.getD pl 0) * V.getD pl 0).natAbs ≤ K := fun c => by
    rw [vAdd_getD hl]
    rcases h with ⟨h1, h2, h3⟩ | h
    · exact Nat.le_trans (euc_step (e4 h1)) (h3 c)
    · exact Nat.le_trans (euc_step e3) (h c)
  refine ⟨⟨by rw [er]; exact e2, hy, fun c => ?_⟩, fun c => ?_, by rw [er]; exact e1⟩
  · rw [er]
    have := key c
    omega
  · have h1 := key c
    have h2 : 1 ≤ (V.getD pl 0).natAbs := by omega
    have h3 := Nat.mul_le_mul_left ((vAdd U (-((U.getD pl 0).fdiv (V.getD pl 0))) V).getD c 0).natAbs h2
    omega
/-- all numbers of a row so small -/
def SzL (n : Nat) (U : List Int) : Prop := ∀ c, Sz n (U.getD c 0)
theorem SzL.mono {n m : Nat} {U : List Int} (h : SzL n U) (k : n ≤ m) : SzL m U := fun c => (h c).mono k
theorem SzL.mem {n : Nat} {U : List Int} (h : SzL n U) {a : Int} (ha : a ∈ U) : Sz n a := by
  obtain ⟨c, hc⟩ := List.getElem?_of_mem ha
  have := h c
  rw [List.getD_eq_getElem?_getD, hc] at this
  exact this
theorem first_of {B1 B2 pl : Nat} {U V : List Int} (hU : SzL B1 U) (hV : SzL B2 V) (hb : B2 ≤ B1) : PairFirst (2 ^ (B1 + B2 + 2)) pl U V ∧ BdL (2 ^ (B1 + B2 + 2)) U ∧ BdL (2 ^ (B1 + B2 + 2)) V := by
  have p1 : (2 : Nat) ^ (B1 + B2 + 2) = 4 * 2 ^ (B1 + B2) := by rw [Nat.pow_add]; omega
  have p2 : (2 : Nat) ^ (B1 + B2) = 2 ^ B1 * 2 ^ B2 := Nat.pow_add ..
  have p3 : (2 : Nat) ^ B2 ≤ 2 ^ B1 := Nat.pow_le_pow_right (by decide) hb
  refine ⟨fun c => ?_, fun c => ?_, fun c => ?_⟩
  · have u := hU c; have x := hU pl; have v := hV c; have y := hV pl
    unfold Sz at u x v y
    have m1 : (U.getD c 0).natAbs * (V.getD pl 0).natAbs ≤ 2 ^ B1 * 2 ^ B2 := Nat.mul_le_mul (by omega) (by omega)
    have m2 : (V.getD c 0).natAbs * (U.getD pl 0).natAbs ≤ 2 ^ B2 * 2 ^ B1 := Nat.mul_le_mul (by omega) (by omega)
    have m3 : (V.getD c 0).natAbs * (V.getD pl 0).natAbs ≤ 2 ^ B1 * 2 ^ B2 := Nat.mul_le_mul (by omega) (by omega)
    rw [Nat.mul_comm (2 ^ B2)] at m2
    have e : (V.getD c 0).natAbs * ((U.getD pl 0).natAbs + 2 * (V.getD pl 0).natAbs) = (V.getD c 0).natAbs * (U.getD pl 0).natAbs + 2 * ((V.getD c 0).natAbs * (V.getD pl 0).natAbs) := by grind
    omega
  · have u := hU c
    unfold Sz at u
    have : (2 : Nat) ^ B1 ≤ 2 ^ (B1 + B2 + 2) := Nat.pow_le_pow_right (by decide) (by omega)
    omega
  · have u := hV c
    unfold Sz at u
    have : (2 : Nat) ^ B2 ≤ 2 ^ (B1 + B2 + 2) := Nat.pow_le_pow_right (by decide) (by omega)
    omega
theorem BdL.sz {B : Nat} {U : List Int} (h : BdL (2 ^ B) U) : SzL (B + 1) U := fun c => by
  have := h c
  unfold Sz
  rw [Nat.pow_succ]
  have : (0 : Nat) < 2 ^ B := Nat.pow_pos (by decide)
  omega
theorem fdiv_le {x y : Int} : (x.fdiv y).natAbs ≤ x.natAbs := by
  by_cases hy : y = 0
  · subst hy; simp
  have pos : ∀ {x y : Int}, 0 < y → (x.fdiv y).natAbs ≤ x.natAbs := fun {x y} hy => by
    rw [Int.fdiv_eq_ediv_of_nonneg x (by omega)]
    have e1 := Int.mul_ediv_add_emod x y
    have e2 := Int.emod_nonneg x (show y ≠ 0 by omega)
    have e3 := Int.emod_lt_of_pos x hy
    rcases Int.lt_or_le x 0 with c | c
    · have h1 : x / y < 0 := Int.ediv_neg_of_neg_of_pos c hy
      have h2 : x ≤ x / y := by
        have : y * (x / y) ≤ 1 * (x / y) := Int.mul_le_mul_of_nonpos_right (by omega) (by omega)
        rcases Int.lt_or_le (x / y) x with q | q
        · have h3 : y * (x / y) ≤ y * (x - 1) := Int.mul_le_mul_of_nonneg_left (by omega) (by omega)
          have h4 : y * (x - 1) ≤ 1 * (x - 1) := Int.mul_le_mul_of_nonpos_right (by omega) (by omega)
          have h5 : y * (x - 1) ≤ (x - 1) + (y - 1) * (-1) := by
            have : (y - 1) * (x - 1) ≤ (y - 1) * (-1) := Int.mul_le_mul_of_nonneg_left (by omega) (by omega)
            have e : y * (x - 1) = (x - 1) + (y - 1) * (x - 1) := by grind
            omega
          omega
        · exact q
      omega
    · have h1 := Int.ediv_nonneg c (show 0 ≤ y by omega)
      have h2 := Int.ediv_le_self y c
      omega
  rcases Int.lt_or_gt_of_ne hy with c | c
  · have := pos (x := -x) (y := -y) (by omega)
    rw [Int.neg_fdiv_neg, Int.natAbs_neg] at this
    exact this
  · exact pos c
end L3
namespace L3
open PySem PySem.Spec PyProof.Rows L2
local macro_rules | `(tactic| wtm_at "sh") => `(tactic| conv => whnf)
/-- rows that tell the same, stepped up to the place k -/
structure Ph (n k : Nat) (rows0 rows : Mat) : Prop where
  sq : Sq n n rows
  lo : ∀ (i : Nat) (r : List Int), rows[i]? = some r → ∀ c, c < k → c < i → r.getD c 0 = 0
  dg : ∀ (i : Nat) (r : List Int), rows[i]? = some r → i < k → 0 ≤ r.getD i 0
  dt : (detN n rows).natAbs = (detN n rows0).natAbs
  sp : ∀ r ∈ rows, Span n rows0 r
  ps : ∀ r ∈ rows0, Span n rows r
theorem Ph.zero {n : Nat} {rows : Mat} (h : Sq n n rows) : Ph n 0 rows rows :=
  ⟨h, fun _ _ _ c hc => by omega, fun _ _ _ hi => by omega, rfl, fun r hr => .of_mem h hr, fun r hr => .of_mem h hr⟩
theorem mem_set2 {rows : Mat} {i j : Nat} {x y r : List Int} (h : r ∈ (rows.set i x).set j y) : r ∈ rows ∨ r = x ∨ r = y := by
  rcases List.mem_or_eq_of_mem_set h with h | h
  · rcases List.mem_or_eq_of_mem_set h with h | h
    · exact .inl h
    · exact .inr (.inl h)
  · exact .inr (.inr h)
theorem get_set2 {rows : Mat} {i j a : Nat} {x y r : List Int} (hij : i ≠ j) (h : ((rows.set i x).set j y)[a]? = some r) : (a = i ∧ r = x) ∨ (a = j ∧ r = y) ∨ (a ≠ i ∧ a ≠ j ∧ rows[a]? = some r) := by
  have hlt := (List.getElem?_eq_some_iff.mp h).1
  rw [List.length_set, List.length_set] at hlt
  by_cases h1 : a = j
  · subst h1
    rw [List.getElem?_set_self (by rw [List.length_set]; exact hlt)] at h
    exact .inr (.inl ⟨rfl, (Option.some.inj h).symm⟩)
  · rw [List.getElem?_set_ne (Ne.symm h1)] at h
    by_cases h2 : a = i
    · subst h2
      rw [List.getElem?_set_self hlt] at h
      exact .inl ⟨rfl, (Option.some.inj h).symm⟩
    · rw [List.getElem?_set_ne (Ne.symm h2)] at h
      exact .inr (.inr ⟨h2, h1, h⟩)
theorem vAdd_back {x y : List Int} {m : Int} (h : x.length = y.length) : vAdd (vAdd x (-m) y) m y = x := by
  unfold vAdd
  refine List.ext_getElem (by simp only [List.length_zipWith]; omega) fun i h1 h2 => ?_
  simp only [List.getElem_zipWith]
  grind
theorem Ph.step {n k at_ : Nat} {rows0 rows : Mat} {U V : List Int} (m : Int) (h4 : n ≤ 4) (h0 : Sq n n rows0) (h : Ph n k rows0 rows) (hk : k < at_) (hU : rows[k]? = some U) (hV : rows[at_]? = some V) : Ph n k rows0 ((rows.set k V).set at_ (vAdd U (-m) V)) := by
  have lU := h.sq.2 U (List.mem_of_getElem? hU)
  have lV := h.sq.2 V (List.mem_of_getElem? hV)
  have kl := (List.getElem?_eq_some_iff.mp hU).1
  have al := (List.getElem?_eq_some_iff.mp hV).1
  have lv : (vAdd U (-m) V).length = n := vAdd_len lU lV
  have sq' : Sq n n ((rows.set k V).set at_ (vAdd U (-m) V)) := (h.sq.set lV).set lv
  have ne : k ≠ at_ := by omega
  have uSp := h.sp U (List.mem_of_getElem? hU)
  have vSp := h.sp V (List.mem_of_getElem? hV)
  refine ⟨sq', fun i r hi c hc hci => ?_, fun i r hi hik => ?_, ?_, fun r hr => ?_, fun r hr => ?_⟩
  · rcases get_set2 ne hi with ⟨rfl, rfl⟩ | ⟨rfl, rfl⟩ | ⟨_, _, hi⟩
    · exact h.lo at_ _ hV c hc (by omega)
    · rw [vAdd_getD (by omega), h.lo k _ hU c hc (by omega), h.lo i _ hV c hc (by omega)]; simp
    · exact h.lo i r hi c hc hci
  · rcases get_set2 ne hi with ⟨rfl, rfl⟩ | ⟨rfl, rfl⟩ | ⟨_, _, hi⟩
    · omega
    · omega
    · exact h.dg i r hi hik
  · have e1 := det_add (-m) h4 h.sq ne hU hV
    have hk' : (rows.set k (vAdd U (-m) V))[k]? = some (vAdd U (-m) V) := by rw [List.getElem?_set_self kl]
    have ha' : (rows.set k (vAdd U (-m) V))[at_]? = some V := by rw [List.getElem?_set_ne ne]; exact hV
    have e2 := det_swap h4 (h.sq.set lv) ne hk' ha'
    rw [List.set_set] at e2
    rw [e2, Int.natAbs_neg, e1, h.dt]
  · rcases mem_set2 hr with hr | rfl | rfl
    · exact h.sp r hr
    · exact vSp
    · exact uSp.vadd h0 _ vSp
  · refine Span.trans sq' h.sq (fun s hs => ?_) (h.ps r hr)
    obtain ⟨i, hi⟩ := List.getElem?_of_mem hs
    have mV : V ∈ (rows.set k V).set at_ (vAdd U (-m) V) := List.mem_of_getElem? (i := k) (by rw [List.getElem?_set_ne (Ne.symm ne), List.getElem?_set_self kl])
    have mW : vAdd U (-m) V ∈ (rows.set k V).set at_ (vAdd U (-m) V) := List.mem_of_getElem? (i := at_) (by rw [List.getElem?_set_self (by rw [List.length_set]; exact al)])
    by_cases h1 : i = k
    · subst h1
      rw [hU] at hi
      cases hi
      have z := (Span.of_mem sq' mW).vadd sq' m (.of_mem sq' mV)
      rw [vAdd_back (by omega)] at z
      exact z
    · by_cases h2 : i = at_
      · subst h2
        rw [hV] at hi
        cases hi
        exact .of_mem sq' mV
      · exact .of_mem sq' (List.mem_of_getElem? (i := i) (by rw [List.getElem?_set_ne (Ne.symm h2), List.getElem?_set_ne (Ne.symm h1)]; exact hi))
theorem neg_scale (U : List Int) : U.map (fun a => 0 - a) = U.map ((-1) * ·) := List.map_congr_left fun a _ => by omega
theorem neg_vAdd {n : Nat} {U : List Int} (h : U.length = n) : U.map (fun a => 0 - a) = vAdd (List.replicate n 0) (-1) U := by
  unfold vAdd
  refine List.ext_getElem (by rw [List.length_zipWith, List.length_map, List.length_replicate]; omega) fun i h1 h2 => ?_
  rw [List.getElem_map, List.getElem_zipWith, List.getElem_replicate]
  omega
theorem neg_getD (U : List Int) (c : Nat) : (U.map fun a => 0 - a).getD c 0 = - U.getD c 0 := by
  rw [List.getD_eq_getElem?_getD, List.getD_eq_getElem?_getD, List.getElem?_map]
  cases U[c]? with
  | none => simp
  | some a => simp
theorem Ph.neg {n k : Nat} {rows0 rows : Mat} {U : List Int} (h0 : Sq n n rows0) (h : Ph n k rows0 rows) (hU : rows[k]? = some U) : Ph n k rows0 (rows.set k (U.map fun a => 0 - a)) := by
  have lU := h.sq.2 U (List.mem_of_getElem? hU)
  have kl := (List.getElem?_eq_some_iff.mp hU).1
  have hl := h.sq.1
  have sq' : Sq n n (rows.set k (U.map fun a => 0 - a)) := h.sq.set (by rw [List.length_map]; exact lU)
  have gs : ∀ {i : Nat} {r : List Int}, (rows.set k (U.map fun a => 0 - a))[i]? = some r → (i = k ∧ r = U.map fun a => 0 - a) ∨ (i ≠ k ∧ rows[i]? = some r) := fun {i r} hi => by
    by_cases e : i = k
    · subst e
      rw [List.getElem?_set_self kl] at hi
      exact .inl ⟨rfl, (Option.some.inj hi).symm⟩
    · rw [List.getElem?_set_ne (Ne.symm e)] at hi
      exact .inr ⟨e, hi⟩
  have mN : (U.map fun a => 0 - a) ∈ rows.set k (U.map fun a => 0 - a) := List.mem_of_getElem? (i := k) (by rw [List.getElem?_set_self kl])
  refine ⟨sq', fun i r hi c hc hci => ?_, fun i r hi hik => ?_, ?_, fun r hr => ?_, fun r hr => ?_⟩
  · rcases gs hi with ⟨rfl, rfl⟩ | ⟨_, hi⟩
    · rw [neg_getD, h.lo i _ hU c hc hci]; rfl
    · exact h.lo i r hi c hc hci
  · rcases gs hi with ⟨rfl, rfl⟩ | ⟨_, hi⟩
    · omega
    · exact h.dg i r hi hik
  · rw [neg_scale, det_scale (-1) h.sq (by omega) lU, set_same hU, ← h.dt]
    rw [Int.natAbs_mul]
    simp
  · rcases List.mem_or_eq_of_mem_set hr with hr | rfl
    · exact h.sp r hr
    · rw [neg_vAdd lU]
      exact Span.vadd h0 .zero _ (h.sp U (List.mem_of_getElem? hU))
  · refine Span.trans sq' h.sq (fun s hs => ?_) (h.ps r hr)
    obtain ⟨i, hi⟩ := List.getElem?_of_mem hs
    by_cases h1 : i = k
    · subst h1
      rw [hU] at hi
      cases hi
      have e : U = vAdd (List.replicate n 0) (-1) (U.map fun a => 0 - a) := by
        rw [← neg_vAdd (by rw [List.length_map]; exact lU), List.map_map]
        conv => lhs; rw [← List.map_id U]
        exact List.map_congr_left fun a _ => by simp
      have z := Span.vadd sq' .zero (-1) (.of_mem sq' mN)
      rw [← e] at z
      exact z
    · exact .of_mem sq' (List.mem_of_getElem? (i := i) (by rw [List.getElem?_set_ne (Ne.symm h1)]; exact hi))
/-- rows in steps -/
structure Steps (n : Nat) (rows0 rows : Mat) : Prop where
  sq : Sq n n rows
  tri : Tri 0 rows
  dg : ∀ (i : Nat) (r : List Int), rows[i]? = some r → 0 ≤ r.getD i 0
  dt : (detN n rows).natAbs = (detN n rows0).natAbs
  sp : ∀ r ∈ rows, Span n rows0 r
  ps : ∀ r ∈ rows0, Span n rows r
theorem Ph.done {n : Nat} {rows0 rows : Mat} (h : Ph n n rows0 rows) : Steps n rows0 rows :=
  ⟨h.sq, fun i r hi c hc => h.lo i r hi c (by have := (List.getElem?_eq_some_iff.mp hi).1; have := h.sq.1; omega) (by omega), fun i r hi => h.dg i r hi (by have := (List.getElem?_eq_some_iff.mp hi).1; have := h.sq.1; omega), h.dt, h.sp, h.ps⟩
end L3
namespace L3
open PySem PySem.Spec PyProof.Rows L2
local macro_rules | `(tactic| wtm_at "sh") => `(tactic| conv => whnf)
/-! ## rows of numbers, as data -/
abbrev rowD (r : List Int) : PyData := .list (r.map PyData.int)
abbrev rowT (r : List Int) : PyData := .tuple (r.map PyData.int)
abbrev matP (rows : Mat) : PyData := .tuple (rows.map rowT)
abbrev matO (p : Addr) (rows : Mat) : T := .own p (rows.map fun r => T.d (rowD r))
/-- a row, told as a tuple or as a list -/
def seqB (b : Bool) (r : List Int) : PyData := match b with | true => rowT r | false => rowD r
theorem seqB_of (b : Bool) (r : List Int) : (seqOf (.d (seqB b r))).map (·.2) = some (r.map PyData.int) := by cases b <;> rfl
def N_taken_off : List Str := ["row", "many", "other", "number", "beside"]
def body_taken_off : TS3 := (xRet (xLc (xZipX (xView 0) (xView 2)) (xGTup 2 (xGCons (xGName 3) (xGCons (xGName 4) xGNil))) xYes (xD (x2 kSub (xView 3) (x2 kMul (xView 1) (xView 4)))) [3, 4]))
def sp_taken_off : Sp3 := fun ts Q _ => ∃ p q x y m n k, ts = [.d (seqB p x), .d (.int m), .d (seqB q y)] ∧ Sz n m ∧ (∀ b ∈ y, Sz k b) ∧ n + k < 1000000 ∧ x.length ≤ 1000 ∧ y.length = x.length ∧ ∀ pa, Q (.own pa ((vAdd x (-m) y).map fun a => T.d (.int a))) ts
theorem v_taken_off (ts Q E) (h : sp_taken_off ts Q E) : body_taken_off { nx := fun r => finOk ts r ∧ Q (.d .none) (finF ts r), rt := fun x r => finOk ts r ∧ Q x (finF ts r) } (start3 N_taken_off ts) := by
  obtain ⟨p, q, x, y, m, n, k, rfl, hm, hy, hnk, hx, hl, kk⟩ := h
  have hb : 1000 < sizeLine := by decide
  have hlen : (vAdd x (-m) y).length = x.length := vAdd_len rfl hl
  refine ⟨_, _, seqB_of p x, seqB_of q y, lc_gen ((vAdd x (-m) y).map PyData.int) (by rw [zipD_len, List.length_map, List.length_map, List.length_map]; omega) (by rw [zipD_len, List.length_map, List.length_map]; omega) (fun r0 h0 i u w hu hw R S ku => ?_) fun r0 h0 pa => ?_⟩
  · simp only [wp, puts, List.set_cons_succ, List.set_cons_zero] at h0; subst h0
    obtain ⟨a, b, ha, hb2, rfl⟩ := zip_at hu
    have hw2 : (vAdd x (-m) y)[i]? = some (a + -m * b) := by unfold vAdd; rw [List.getElem?_zipWith, ha, hb2]
    rw [List.getElem?_map, hw2] at hw
    cases hw
    refine ⟨rfl, fun _ => ⟨mulOk hm (hy b (List.mem_of_getElem? hb2)) hnk, ?_⟩, nofun⟩
    rw [show a + -m * b = a - m * b by rw [Int.neg_mul]; omega] at ku
    exact ku _ rfl
  · simp only [wp, puts, List.set_cons_succ, List.set_cons_zero] at h0; subst h0
    refine ⟨⟨⟩, ?_⟩
    rw [List.map_map]
    exact kk pa
/-- a comprehension that chooses -/
theorem lf_gen {α : Type} {f : α → PyData} (h : α → PyData) (pr : α → Bool) (l : List α) (hsz : l.length ≤ sizeLine) {r1 : Rho} {js : List Nat} {g : TG3} {tt : TT3} {te : TE3} {Fin : Addr → List T → Rho → Prop}
    (turn : ∀ r0, wp r1 js = r0 → ∀ u, u ∈ l → ∀ (R : T → Rho → Prop) (S : Rho → Prop), (pr u = true → ∀ r4, wp r4 js = r0 → R (.d (h u)) r4) → (pr u = false → ∀ r3, wp r3 js = r0 → S r3) → g (.d (f u)) r0 fun r2 => tt r2 fun b r3 => (b = true → te r3 R) ∧ (b = false → S r3))
    (fin : ∀ r0, wp r1 js = r0 → ∀ p, Fin p ((l.filter pr).map fun u => T.d (h u)) r0) :
    ∀ p, ∃ W : Nat → List T → Rho → Prop, W 0 [] (wp r1 js) ∧
      (∀ (i : Nat) (x : PyData) (acc : List T) (r : Rho), (l.map f)[i]? = some x → W i acc r → g (.d x) r fun r2 => tt r2 fun b r3 => (b = true → te r3 fun y r4 => acc.length < sizeLine ∧ W (i + 1) (acc ++ [y]) (wp r4 js)) ∧ (b = false → W (i + 1) acc (wp r3 js))) ∧
      ∀ acc r, W (l.map f).length acc r → Fin p acc r := fun p => by
  refine ⟨fun i acc r => r = wp r1 js ∧ acc = ((l.take i).filter pr).map fun u => T.d (h u), ⟨rfl, rfl⟩, fun i x acc r hx hW => ?_, fun acc r hW => ?_⟩
  · obtain ⟨rfl, rfl⟩ := hW
    obtain ⟨u, hu, rfl⟩ := get_fun hx
    have hi : i < l.length := (List.getElem?_eq_some_iff.mp hu).1
    refine turn _ rfl u (List.mem_of_getElem? hu) _ _ (fun e r4 h4 => ⟨?_, h4, ?_⟩) (fun e r3 h3 => ⟨h3, ?_⟩)
    · rw [List.length_map]
      have := List.length_filter_le pr (l.take i)
      rw [List.length_take] at this
      omega
    · rw [take_succ hu, List.filter_append, List.map_append, List.filter_cons_of_pos e]
      rfl
    · rw [take_succ hu, List.filter_append, List.map_append, List.filter_cons_of_neg (by rw [e]; decide)]
      simp
  · obtain ⟨rfl, rfl⟩ := hW
    rw [List.length_map, List.take_length]
    exact fin _ rfl p
def N_is_square : List Str := ["rows", "row"]
def body_is_square : TS3 := (xRet (xD (xAndV (x2 kGt (x1 cLen (xView 0)) (xC (.int 0))) (x2 kEq (xFz (xLc (xSeqI (xView 0)) (xGName 1) (xTest (x2 kNeI (x1 cLen (xView 1)) (x1 cLen (xView 0)))) (xMove 1) [1])) (xFz (xLst xNil))))))
def sqB (rows : Mat) : Bool := decide (0 < rows.length) && decide (∀ r ∈ rows, r.length = rows.length)
def sp_is_square : Sp3 := fun ts Q _ => ∃ rows, ts = [.d (matP rows)] ∧ rows.length ≤ 1000 ∧ (∀ r ∈ rows, r.length ≤ 1000) ∧ Q (.d (.bool (sqB rows))) ts
theorem nest_rows {rows : Mat} (h : rows.length < sizeLine) (k : ∀ r ∈ rows, r.length < sizeLine) : Nest 8 (.list (rows.map rowT)) := ⟨by rw [List.length_map]; exact h, fun x hx => by
  obtain ⟨r, hr, rfl⟩ := List.mem_map.mp hx
  exact ⟨by rw [List.length_map]; exact k r hr, fun y hy => by obtain ⟨z, _, rfl⟩ := List.mem_map.mp hy; exact ⟨⟩⟩⟩
theorem eqv_map_nil {α : Type} (f : α → PyData) (l : List α) : PyData.eqv (.list (l.map f)) (.list []) = decide (l = []) := by
  cases l with
  | nil => rfl
  | cons x l => simp [PyData.eqv, PyData.eqvAll]
theorem filter_none {α : Type} {pr : α → Bool} {l : List α} : (l.filter pr = []) ↔ ∀ u ∈ l, pr u = false := by
  rw [List.filter_eq_nil_iff]
  exact ⟨fun h u hu => by simpa using h u hu, fun h u hu => by rw [h u hu]; decide⟩
theorem v_is_square (ts Q E) (h : sp_is_square ts Q E) : body_is_square { nx := fun r => finOk ts r ∧ Q (.d .none) (finF ts r), rt := fun x r => finOk ts r ∧ Q x (finF ts r) } (start3 N_is_square ts) := by
  obtain ⟨rows, rfl, hlen, hrl, k⟩ := h
  have hb : 1000 < sizeLine := by decide
  have lm : (rows.map rowT).length = rows.length := List.length_map ..
  refine ⟨fun hc => ?_, fun hc => ?_⟩
  · have h0 : 0 < rows.length := by
      have : (0 : Int) < ((rows.map rowT).length : Int) := dT hc
      omega
    refine lf_gen rowT (fun r => decide (r.length ≠ rows.length)) rows (by omega) (fun r0 h0 u hu R S k1 k2 => ?_) fun r0 h0' p => ?_
    · simp only [wp, puts, List.set_cons_succ, List.set_cons_zero] at h0; subst h0
      have e : (!decide (((u.map PyData.int).length : Int) = ((rows.map rowT).length : Int))) = decide (u.length ≠ rows.length) := by
        rw [List.length_map, lm, ← decide_not]
        exact decide_eq_decide.mpr (by omega)
      exact ⟨fun hc2 => k1 (e.symm.trans hc2) _ rfl, fun hc2 => k2 (e.symm.trans hc2) _ rfl⟩
    · simp only [wp, puts, List.set_cons_succ, List.set_cons_zero] at h0'; subst h0'
      refine ⟨nvs_map _ _, sz 0, fun p2 => ⟨rfl, ?_⟩⟩
      rw [fz_own p rowT (rows.filter fun r => decide (r.length ≠ rows.length))]
      have fl := List.length_filter_le (fun r : List Int => decide (r.length ≠ rows.length)) rows
      refine ⟨nest_shaped (nest_rows (by omega) fun r hr => by have := hrl r (List.mem_filter.mp hr).1; omega) (by decide), shp_nilL, ⟨⟩, ?_⟩
      show Q (.d (.bool (PyData.eqv (.list ((rows.filter fun r => decide (r.length ≠ rows.length)).map rowT)) (.list [])))) _
      rw [eqv_map_nil]
      have e : decide ((rows.filter fun r => decide (r.length ≠ rows.length)) = []) = sqB rows := by
        unfold sqB
        rw [decide_eq_true h0, Bool.true_and]
        refine decide_eq_decide.mpr ?_
        rw [filter_none]
        exact ⟨fun h r hr => by have := h r hr; simpa using this, fun h r hr => by simp [h r hr]⟩
      rw [e]
      exact k
  · have h0 : ¬ 0 < rows.length := by
      have : ¬ (0 : Int) < ((rows.map rowT).length : Int) := dF hc
      omega
    have e : sqB rows = false := by
      unfold sqB
      rw [decide_eq_false h0]; rfl
    rw [e] at k
    exact ⟨⟨⟩, k⟩
theorem getI_at {α : Type} {l : List α} {k : Nat} {i : Int} {x : α} (e : i = (k : Int)) (h : l[k]? = some x) : getI l i = some x := by
  rw [e, getI_nat, h]
theorem setI_at {α : Type} {l : List α} {k : Nat} {i : Int} {x : α} (e : i = (k : Int)) (h : k < l.length) : setI l i x = some (l.set k x) := by
  subst e
  unfold setI
  rw [if_pos (by omega), if_pos (by omega)]
  rfl
theorem rowD_at {U : List Int} {k : Nat} {i : Int} (e : i = (k : Int)) (h : k < U.length) : getI (U.map PyData.int) i = some (.int (U.getD k 0)) := by
  refine getI_at e ?_
  rw [List.getElem?_map, List.getD_eq_getElem?_getD, List.getElem?_eq_getElem h]
  rfl
theorem matO_at {rows : Mat} {k : Nat} {i : Int} {U : List Int} (e : i = (k : Int)) (h : rows[k]? = some U) : getI (rows.map fun r => T.d (rowD r)) i = some (T.d (rowD U)) := by
  refine getI_at e ?_
  rw [List.getElem?_map, h]
  rfl
def L1_stepped : TS3 := (xFor (xR2 (x2 kAdd (xView 2) (xC (.int 1))) (x1 cLen (xView 1))) (xGName 3) (xWhile (xTest (x2 kNeI (x2 cIx (x2 cIx (xView 1) (xView 3)) (xView 2)) (xC (.int 0)))) (xSeq (xAsg (xD (x2 kDivF (x2 cIx (x2 cIx (xView 1) (xView 2)) (xView 2)) (x2 cIx (x2 cIx (xView 1) (xView 3)) (xView 2)))) (xGName 4))
  (xAsg (xTup (xCons (xD (x2 cIx (xView 1) (xView 3))) (xCons (xD (xFz (xCall sp_taken_off xNoE (xArg (x2 cIx (xView 1) (xView 2)) (xArg (xView 4) (xArg (x2 cIx (xView 1) (xView 3)) xANil)))))) xNil))) (xGTup 2 (xGCons (xGSub 1 (xView 2)) (xGCons (xGSub 1 (xView 3)) xGNil)))))))
def L2_stepped : TS3 := (xFor (xR1 (x1 cLen (xView 1))) (xGName 2) (xSeq L1_stepped
  (xIfS (xTest (x2 kLt (x2 cIx (x2 cIx (xView 1) (xView 2)) (xView 2)) (xC (.int 0)))) (xAsg (xD (xFz (xLc (xSeqI (x2 cIx (xView 1) (xView 2))) (xGName 6) xYes (xD (x2 kSub (xC (.int 0)) (xView 6))) [6]))) (xGSub 1 (xView 2))) xNext)))
def N_stepped : List Str := ["rows", "left", "place", "at", "many", "row", "number"]
def body_stepped : TS3 := (xSeq (xAsg (xLc (xSeqI (xView 0)) (xGName 5) xYes (xD (xFz (x1 cLst (xView 5)))) [5]) (xGName 1))
  (xSeq L2_stepped
  (xRet (xMove 1))))
theorem v_L1_stepped {D : Ends3} {pl : Addr} {rows0 rows : Mat} {n k b : Nat} {s3 s4 : Option T} (h4 : n ≤ 4) (h0 : Sq n n rows0) (hk : k < n) (h : Ph n k rows0 rows) (hB : ∀ r ∈ rows, SzL b r) (hb : (n - k) * b + 3 * (n - k - 1) < 9000)
    (q : ∀ rows' s3 s4, Ph n k rows0 rows' → (∀ (i : Nat) (r : List Int), rows'[i]? = some r → k < i → r.getD k 0 = 0) → (∀ r ∈ rows', SzL ((n - k) * b + 3 * (n - k - 1)) r) → D.nx [some (.d (matP rows0)), some (matO pl rows'), some (.d (.int (0 + (k : Nat)))), s3, s4, none, none]) :
    L1_stepped D [some (.d (matP rows0)), some (matO pl rows), some (.d (.int (0 + (k : Nat)))), s3, s4, none, none] := by
  have hl := h.sq.1
  have lm : ∀ rows : Mat, (rows.map fun r => T.d (rowD r)).length = rows.length := fun rows => List.length_map ..
  have hb2 : 1000 < sizeLine := by decide
  refine ⟨⟨by omega, by omega, ?_, ?_⟩, fun j r => ∃ rows' s3 s4, r = [some (.d (matP rows0)), some (matO pl rows'), some (.d (.int (0 + (k : Nat)))), s3, s4, none, none] ∧ Ph n k rows0 rows' ∧ (∀ (i : Nat) (r : List Int), rows'[i]? = some r → k < i → i < k + 1 + j → r.getD k 0 = 0) ∧ (∀ r ∈ rows', SzL ((j + 1) * b + 3 * j) r) ∧ (∀ (i : Nat) (r : List Int), rows'[i]? = some r → k + 1 + j ≤ i → SzL b r) ∧ k + 1 + j ≤ n, ⟨rows, _, _, rfl, h, fun i r _ h1 h2 => by omega, fun r hr => (hB r hr).mono (by omega), fun i r hi _ => hB r (List.mem_of_getElem? hi), by omega⟩, fun j x r hx hW => ?_, fun r hW => ?_⟩
  · show -(2 ^ 62) ≤ ((rows.map fun r => T.d (rowD r)).length : Int)
    rw [lm]; omega
  · show ((rows.map fun r => T.d (rowD r)).length : Int) < 2 ^ 62
    rw [lm]; omega
  · obtain ⟨rows', s3, s4, rfl, hp, hz, hs1, hs2, hj⟩ := hW
    obtain ⟨hj1, rfl⟩ := rangeI_get hx
    have hj2 : k + 1 + j < n := by
      have : j < (((rows.map fun r => T.d (rowD r)).length : Int) - (0 + (k : Nat) + 1)).toNat := hj1
      rw [lm] at this
      omega
    have hl' := hp.sq.1
    obtain ⟨U, hU⟩ : ∃ U, rows'[k]? = some U := ⟨_, List.getElem?_eq_getElem (by omega)⟩
    obtain ⟨V, hV⟩ : ∃ V, rows'[k + 1 + j]? = some V := ⟨_, List.getElem?_eq_getElem (by omega)⟩
    have hb3 : (j + 1) * b + 3 * j + b + 3 ≤ (n - k) * b + 3 * (n - k - 1) := by
      have e1 : (j + 1) * b + b = (j + 2) * b := by grind
      have e2 : (j + 2) * b ≤ (n - k) * b := Nat.mul_le_mul_right b (by omega)
      omega
    obtain ⟨f1, f2, f3⟩ := first_of (pl := k) (hs1 U (List.mem_of_getElem? hU)) (hs2 _ V hV (Nat.le_refl _)) (show b ≤ (j + 1) * b + 3 * j by
      have : 1 * b ≤ (j + 1) * b := Nat.mul_le_mul_right b (by omega)
      omega)
    refine ⟨fun m r => ∃ rows2 s4 U V L, r = [some (.d (matP rows0)), some (.own pl L), some (.d (.int (0 + (k : Nat)))), some (.d (.int (0 + (k : Nat) + 1 + (j : Nat)))), s4, none, none] ∧ (L = rows2.map fun r => T.d (rowD r)) ∧ Ph n k rows0 rows2 ∧ (∀ (i : Nat) (r : List Int), rows2[i]? = some r → k < i → i < k + 1 + j → r.getD k 0 = 0) ∧ rows2[k]? = some U ∧ rows2[k + 1 + j]? = some V ∧
      (∀ (i : Nat) (r : List Int), rows2[i]? = some r → i ≠ k → i ≠ k + 1 + j → SzL ((j + 1) * b + 3 * j) r) ∧ (∀ (i : Nat) (r : List Int), rows2[i]? = some r → k + 1 + j + 1 ≤ i → SzL b r) ∧ BdL (2 ^ ((j + 1) * b + 3 * j + b + 2)) U ∧ BdL (2 ^ ((j + 1) * b + 3 * j + b + 2)) V ∧ (PairInv (2 ^ ((j + 1) * b + 3 * j + b + 2)) k U V ∨ PairFirst (2 ^ ((j + 1) * b + 3 * j + b + 2)) k U V) ∧ m = (V.getD k 0).natAbs,
      ⟨_, rows', _, U, V, _, rfl, rfl, hp, hz, hU, hV, fun i r hi _ _ => hs1 r (List.mem_of_getElem? hi), fun i r hi h => hs2 i r hi (by omega), f2, f3, .inr f1, rfl⟩, fun m r hW => ?_⟩
    clear hU hV f1 f2 f3 U V
    obtain ⟨rows2, s4, U, V, L, rfl, rfl, hp2, hz2, hU, hV, g1, g2, bU, bV, pi, rfl⟩ := hW
    have lU := hp2.sq.2 U (List.mem_of_getElem? hU)
    have lV := hp2.sq.2 V (List.mem_of_getElem? hV)
    have hl2 := hp2.sq.1
    have ea : (0 + (k : Nat) + 1 + (j : Nat) : Int) = ((k + 1 + j : Nat) : Int) := by omega
    have ek : (0 + (k : Nat) : Int) = (k : Int) := by omega
    have iV := matO_at (rows := rows2) ea hV
    have iU := matO_at (rows := rows2) ek hU
    have eV := rowD_at (U := V) ek (by omega)
    have eU := rowD_at (U := U) ek (by omega)
    refine ⟨rfl, _, iV, _, eV, fun hc => ?_, fun hc => ?_⟩
    · have hy : V.getD k 0 ≠ 0 := by
        intro e
        have : (!decide (V.getD k 0 = 0)) = true := hc
        rw [e] at this
        simp at this
      have szV := (bV.sz k).log
      obtain ⟨p1, p2, p3⟩ := pair_step (by omega) bU bV hy pi
      have sm : Sz ((j + 1) * b + 3 * j + b + 2 + 1) ((U.getD k 0).fdiv (V.getD k 0)) := (bU.sz k).le fdiv_le
      refine ⟨rfl, _, iU, _, eU, rfl, _, iV, _, eV, ⟨hy, by omega⟩, rfl, _, iV, rfl, _, iU, rfl, _, iV, nd0, false, false, U, V, (U.getD k 0).fdiv (V.getD k 0), _, _, rfl, sm, fun a ha => bV.sz.mem ha, by omega, by omega, by omega, fun pa => ⟨nvs_map _ _, ?_⟩⟩
      rw [fz_own pa PyData.int (vAdd U (-((U.getD k 0).fdiv (V.getD k 0))) V)]
      refine ⟨sz 2, rfl, _, setI_at ek (by rw [lm]; omega), _, setI_at ea (by rw [List.length_set, lm]; omega), _, p3, (rows2.set k V).set (k + 1 + j) (vAdd U (-((U.getD k 0).fdiv (V.getD k 0))) V), _, V, vAdd U (-((U.getD k 0).fdiv (V.getD k 0))) V, _, rfl, ?_, hp2.step _ h4 h0 (by omega) hU hV, fun i r hi h1 h2 => ?_, ?_, ?_, fun i r hi h1 h2 => ?_, fun i r hi h1 => ?_, bV, p2, .inl p1, rfl⟩
      · rw [List.map_set, List.map_set]
        rfl
      · rcases get_set2 (by omega) hi with ⟨rfl, rfl⟩ | ⟨rfl, rfl⟩ | ⟨_, _, hi⟩
        · omega
        · omega
        · exact hz2 i r hi h1 h2
      · rw [List.getElem?_set_ne (by omega), List.getElem?_set_self (by omega)]
      · rw [List.getElem?_set_self (by rw [List.length_set]; omega)]
      · rcases get_set2 (by omega) hi with ⟨rfl, rfl⟩ | ⟨rfl, rfl⟩ | ⟨_, _, hi⟩
        · exact absurd rfl h1
        · exact absurd rfl h2
        · exact g1 i r hi h1 h2
      · rcases get_set2 (by omega) hi with ⟨rfl, rfl⟩ | ⟨rfl, rfl⟩ | ⟨_, _, hi⟩
        · omega
        · omega
        · exact g2 i r hi h1
    · have hy : V.getD k 0 = 0 := by
        have : (!decide (V.getD k 0 = 0)) = false := hc
        simpa using this
      have eB : (j + 1 + 1) * b + 3 * (j + 1) = (j + 1) * b + 3 * j + b + 2 + 1 := by grind
      refine ⟨rows2, _, _, rfl, hp2, fun i r hi h1 h2 => ?_, fun r hr => ?_, fun i r hi h1 => g2 i r hi (by omega), by omega⟩
      · by_cases e : i = k + 1 + j
        · subst e
          rw [hV] at hi
          cases hi
          exact hy
        · exact hz2 i r hi h1 (by omega)
      · rw [eB]
        obtain ⟨i, hi⟩ := List.getElem?_of_mem hr
        by_cases e1 : i = k
        · subst e1
          rw [hU] at hi; cases hi
          exact bU.sz
        · by_cases e2 : i = k + 1 + j
          · subst e2
            rw [hV] at hi; cases hi
            exact bV.sz
          · exact (g1 i r hi e1 e2).mono (by omega)
  · obtain ⟨rows', s3, s4, rfl, hp, hz, hs1, hs2, hj⟩ := hW
    rw [rangeI_len, lm, hl] at hz hs1
    have e : ((n : Int) - (0 + (k : Nat) + 1)).toNat = n - k - 1 := by omega
    rw [e] at hz hs1
    refine q rows' _ _ hp (fun i r hi h1 => hz i r hi h1 (by have := (List.getElem?_eq_some_iff.mp hi).1; have := hp.sq.1; omega)) fun r hr => ?_
    have := hs1 r hr
    rw [show n - k - 1 + 1 = n - k by omega] at this
    exact this
end L3
namespace L3
open PySem PySem.Spec PyProof.Rows L2
local macro_rules | `(tactic| wtm_at "sh") => `(tactic| conv => whnf)
/-- how great the numbers may be at the place k -/
def BB (n b : Nat) : Nat → Nat
  | 0 => b
  | k + 1 => (n - k) * BB n b k + 3 * (n - k - 1)
theorem BB_ok {n b k : Nat} (h4 : n ≤ 4) (hb : b ≤ 370) (hk : k < n) : (n - k) * BB n b k + 3 * (n - k - 1) < 9000 := by
  rcases (show (n = 1 ∧ k = 0) ∨ (n = 2 ∧ k = 0) ∨ (n = 2 ∧ k = 1) ∨ (n = 3 ∧ k = 0) ∨ (n = 3 ∧ k = 1) ∨ (n = 3 ∧ k = 2) ∨ (n = 4 ∧ k = 0) ∨ (n = 4 ∧ k = 1) ∨ (n = 4 ∧ k = 2) ∨ (n = 4 ∧ k = 3) by omega) with ⟨rfl, rfl⟩ | ⟨rfl, rfl⟩ | ⟨rfl, rfl⟩ | ⟨rfl, rfl⟩ | ⟨rfl, rfl⟩ | ⟨rfl, rfl⟩ | ⟨rfl, rfl⟩ | ⟨rfl, rfl⟩ | ⟨rfl, rfl⟩ | ⟨rfl, rfl⟩ <;> simp [BB] <;> omega
def sp_stepped : Sp3 := fun ts Q _ => ∃ rows n b, ts = [.d (matP rows)] ∧ Sq n n rows ∧ n ≤ 4 ∧ (∀ r ∈ rows, SzL b r) ∧ b ≤ 370 ∧ ∀ p rows', Steps n rows rows' → (∀ r ∈ rows', SzL 8999 r) → Q (matO p rows') ts
theorem v_stepped (ts Q E) (h : sp_stepped ts Q E) : body_stepped { nx := fun r => finOk ts r ∧ Q (.d .none) (finF ts r), rt := fun x r => finOk ts r ∧ Q x (finF ts r) } (start3 N_stepped ts) := by
  obtain ⟨rows0, n, b, rfl, h0, h4, hB, hb, k⟩ := h
  have hb2 : 1000 < sizeLine := by decide
  have lm : ∀ rows : Mat, (rows.map fun r => T.d (rowD r)).length = rows.length := fun rows => List.length_map ..
  have hl0 := h0.1
  refine lc_gen (rows0.map rowD) (by simp) (by rw [List.length_map]; omega) (fun r0 h0' i x y hx hy R S ku => ?_) fun r0 h0' pl => ?_
  · simp only [wp, puts, List.set_cons_succ, List.set_cons_zero] at h0'; subst h0'
    obtain ⟨u, hu, rfl⟩ := get_fun hx
    obtain rfl := get_map2 hy hu
    refine ⟨fun _ p => ⟨nvs_d _, ?_⟩, nofun⟩
    rw [fz_outs]
    exact ku _ rfl
  simp only [wp, puts, List.set_cons_succ, List.set_cons_zero] at h0'; subst h0'
  rw [show (rows0.map rowD).map T.d = rows0.map (fun r => T.d (rowD r)) by rw [List.map_map]; rfl]
  refine ⟨by show ((rows0.map fun r => T.d (rowD r)).length : Int) < 2 ^ 62; rw [lm]; omega, by show -(2 ^ 62) ≤ ((rows0.map fun r => T.d (rowD r)).length : Int); rw [lm]; omega, fun j r => ∃ rows' s2 s3 s4 L, r = [some (.d (matP rows0)), some (.own pl L), s2, s3, s4, none, none] ∧ (L = rows'.map fun r => T.d (rowD r)) ∧ Ph n j rows0 rows' ∧ (∀ r ∈ rows', SzL (BB n b j) r) ∧ j ≤ n, ⟨rows0, _, _, _, _, rfl, rfl, Ph.zero h0, hB, by omega⟩, fun j x r hx hW => ?_, fun r hW => ?_⟩
  · obtain ⟨rows', s2, s3, s4, L, rfl, rfl, hp, hs, hj⟩ := hW
    obtain ⟨hj1, rfl⟩ := rangeI_get hx
    have hj2 : j < n := by
      have : j < ((rows0.map fun r => T.d (rowD r)).length : Int).toNat := hj1
      rw [lm] at this
      omega
    refine v_L1_stepped h4 h0 hj2 hp hs (BB_ok h4 hb hj2) fun rows2 s3 s4 hp2 hz hs2 => ?_
    have hl2 := hp2.sq.1
    have ek : (0 + (j : Nat) : Int) = (j : Int) := by omega
    obtain ⟨U, hU⟩ : ∃ U, rows2[j]? = some U := ⟨_, List.getElem?_eq_getElem (by omega)⟩
    have lU := hp2.sq.2 U (List.mem_of_getElem? hU)
    have iU := matO_at (rows := rows2) ek hU
    have eU := rowD_at (U := U) ek (by omega)
    have fin : ∀ rows3, Ph n j rows0 rows3 → (∀ (i : Nat) (r : List Int), rows3[i]? = some r → j < i → r.getD j 0 = 0) → (∀ r, rows3[j]? = some r → 0 ≤ r.getD j 0) → Ph n (j + 1) rows0 rows3 := fun rows3 h z d => ⟨h.sq, fun i r hi c hc hci => by
      by_cases e : c = j
      · subst e; exact z i r hi (by omega)
      · exact h.lo i r hi c (by omega) hci, fun i r hi hij => by
      by_cases e : i = j
      · subst e; exact d r hi
      · exact h.dg i r hi (by omega), h.dt, h.sp, h.ps⟩
    refine ⟨rfl, _, iU, _, eU, fun hc => ?_, fun hc => ?_⟩
    · have hneg : U.getD j 0 < 0 := dT hc
      refine ⟨rfl, _, iU, lc_gen ((U.map fun a => 0 - a).map PyData.int) (by simp) (by rw [List.length_map]; omega) (fun r0 h0' i x y hx hy R S ku => ?_) fun r0 h0' pn => ⟨nvs_d _, ?_⟩⟩
      · simp only [wp, puts, List.set_cons_succ, List.set_cons_zero] at h0'; subst h0'
        obtain ⟨u, hu, rfl⟩ := get_fun hx
        rw [List.map_map] at hy
        obtain rfl := get_map2 hy hu
        exact ⟨fun _ => ku _ rfl, nofun⟩
      simp only [wp, puts, List.set_cons_succ, List.set_cons_zero] at h0'; subst h0'
      rw [fz_outs]
      have e3 : (rows2.map fun r => T.d (rowD r)).set j (T.d (rowD (U.map fun a => 0 - a))) = (rows2.set j (U.map fun a => 0 - a)).map fun r => T.d (rowD r) := by rw [List.map_set]
      refine ⟨_, setI_at ek (by rw [lm]; omega), rows2.set j (U.map fun a => 0 - a), _, _, _, _, rfl, ?_, fin _ (hp2.neg h0 hU) (fun i r hi h1 => ?_) (fun r hi => ?_), fun r hr => ?_, by omega⟩
      · rw [← e3]
      · rw [List.getElem?_set_ne (by omega)] at hi
        exact hz i r hi h1
      · rw [List.getElem?_set_self (by omega)] at hi
        cases hi
        rw [neg_getD]
        omega
      · rcases List.mem_or_eq_of_mem_set hr with hr | rfl
        · exact hs2 r hr
        · intro c
          rw [neg_getD]
          exact (hs2 U (List.mem_of_getElem? hU) c).neg
    · have hpos : ¬ U.getD j 0 < 0 := dF hc
      exact ⟨rows2, _, _, _, _, rfl, rfl, fin _ hp2 hz fun r hi => by rw [hU] at hi; cases hi; omega, hs2, by omega⟩
  · obtain ⟨rows', s2, s3, s4, L, rfl, rfl, hp, hs, hj⟩ := hW
    rw [rangeI_len, lm] at hp hs
    have e : ((rows0.length : Int)).toNat = n := by omega
    rw [e] at hp hs
    refine ⟨⟨⟩, k pl rows' hp.done fun r hr => (hs r hr).mono ?_⟩
    match n, h4 with
    | 0, _ => show b ≤ 8999; omega
    | m + 1, h4 => exact Nat.le_of_lt_succ (BB_ok h4 hb (Nat.lt_succ_self m))
end L3
namespace L3
open PySem PySem.Spec PyProof.Rows L2
local macro_rules | `(tactic| wtm_at "sh") => `(tactic| conv => whnf)
theorem prodD_snoc : ∀ (o : Nat) (l : Mat) (r : List Int), prodD o (l ++ [r]) = prodD o l * r.getD (o + l.length) 0
  | o, [], r => by show r.getD o 0 * 1 = 1 * r.getD (o + 0) 0; rw [Nat.add_zero]; omega
  | o, x :: l, r => by
    show x.getD o 0 * prodD (o + 1) (l ++ [r]) = x.getD o 0 * prodD (o + 1) l * r.getD (o + (l.length + 1)) 0
    rw [prodD_snoc (o + 1) l r, show o + 1 + l.length = o + (l.length + 1) by omega]
    grind
theorem prodD_nonneg : ∀ (o : Nat) (l : Mat), (∀ (i : Nat) (r : List Int), l[i]? = some r → 0 ≤ r.getD (o + i) 0) → 0 ≤ prodD o l
  | _, [], _ => by show (0 : Int) ≤ 1; decide
  | o, x :: l, h => by
    refine Int.mul_nonneg (h 0 x rfl) (prodD_nonneg (o + 1) l fun i r hi => ?_)
    have := h (i + 1) r (by simpa using hi)
    rw [show o + 1 + i = o + (i + 1) by omega]
    exact this
theorem Steps.prod {n : Nat} {rows0 rows : Mat} (h : Steps n rows0 rows) : prodD 0 rows = (detN n rows0).natAbs := by
  have e := det_tri n rows h.sq h.tri
  have p : 0 ≤ prodD 0 rows := prodD_nonneg 0 rows fun i r hi => by rw [Nat.zero_add]; exact h.dg i r hi
  have d := h.dt
  rw [e] at d
  omega
theorem enum_get {α : Type} {f : α → PyData} {l : List α} {i : Nat} {x : PyData} (h : (enumD (l.map f))[i]? = some x) : ∃ u, l[i]? = some u ∧ x = .tuple [.int (i : Nat), f u] := by
  unfold enumD at h
  rw [List.getElem?_zipWith] at h
  cases e : (l.map f)[i]? with
  | none => rw [e] at h; cases h1 : (List.range (l.map f).length)[i]? <;> rw [h1] at h <;> cases h
  | some y =>
    have hi := (List.getElem?_eq_some_iff.mp e).1
    rw [e, List.getElem?_range hi] at h
    obtain ⟨u, hu, rfl⟩ := get_fun e
    exact ⟨u, hu, (Option.some.inj h).symm⟩
def N_measure_of : List Str := ["rows", "found", "place", "row"]
def body_measure_of : TS3 := (xSeq (xAsg (xD (xC (.int 1))) (xGName 1))
  (xSeq (xFor (xEnum (xFz (xCall sp_stepped xNoE (xArg (xView 0) xANil)))) (xGTup 2 (xGCons (xGName 2) (xGCons (xGName 3) xGNil))) (xAugMul 1 (x2 cIx (xView 3) (xView 2))))
  (xRet (xMove 1))))
def sp_measure_of : Sp3 := fun ts Q _ => ∃ rows n b, ts = [.d (matP rows)] ∧ Sq n n rows ∧ n ≤ 4 ∧ (∀ r ∈ rows, SzL b r) ∧ b ≤ 370 ∧ Q (.d (.int (detN n rows).natAbs)) ts
theorem v_measure_of (ts Q E) (h : sp_measure_of ts Q E) : body_measure_of { nx := fun r => finOk ts r ∧ Q (.d .none) (finF ts r), rt := fun x r => finOk ts r ∧ Q x (finF ts r) } (start3 N_measure_of ts) := by
  obtain ⟨rows0, n, b, rfl, h0, h4, hB, hb, k⟩ := h
  have hb2 : 1000 < sizeLine := by decide
  refine ⟨nd0, rows0, n, b, rfl, h0, h4, hB, hb, fun p rows hs hz => ⟨nvs_map _ _, ?_⟩⟩
  rw [fz_own p rowD rows]
  have hl := hs.sq.1
  refine ⟨fun i r => ∃ c s2 s3, r = [some (.d (matP rows0)), some (.d (.int c)), s2, s3] ∧ c = prodD 0 (rows.take i) ∧ Sz (9000 * i + 1) c ∧ i ≤ rows.length, ⟨1, _, _, rfl, rfl, by unfold Sz; decide, by omega⟩, fun i x r hx hW => ?_, fun r hW => ?_⟩
  · obtain ⟨c, s2, s3, rfl, rfl, sc, hi⟩ := hW
    obtain ⟨u, hu, rfl⟩ := enum_get hx
    have hi2 := (List.getElem?_eq_some_iff.mp hu).1
    have lu := hs.sq.2 u (List.mem_of_getElem? hu)
    have su := hz u (List.mem_of_getElem? hu) i
    have e1 : prodD 0 (rows.take (i + 1)) = prodD 0 (rows.take i) * u.getD i 0 := by
      rw [take_succ hu, prodD_snoc, List.length_take, Nat.min_eq_left (by omega), Nat.zero_add]
    exact ⟨rfl, _, rowD_at (k := i) rfl (by omega), mulOk sc su (by omega), _, _, _, rfl, e1.symm, (sc.mul su).mono (by omega), by omega⟩
  · obtain ⟨c, s2, s3, rfl, rfl, sc, hi⟩ := hW
    rw [enumD_len, List.length_map, List.take_length, hs.prod]
    exact ⟨⟨⟩, k⟩
def N_is_lattice : List Str := ["rows"]
def body_is_lattice : TS3 := (xRet (xD (xAndV (xFz (xCall sp_is_square xNoE (xArg (xView 0) xANil))) (x2 kGt (xFz (xCall sp_measure_of xNoE (xArg (xView 0) xANil))) (xC (.int 0))))))
def latB (rows : Mat) : Bool := sqB rows && decide (detN rows.length rows ≠ 0)
theorem sqB_iff {rows : Mat} : sqB rows = true ↔ 0 < rows.length ∧ Sq rows.length rows.length rows := by
  unfold sqB
  rw [Bool.and_eq_true, decide_eq_true_eq, decide_eq_true_eq]
  exact ⟨fun h => ⟨h.1, rfl, h.2⟩, fun h => ⟨h.1, h.2.2⟩⟩
def sp_is_lattice : Sp3 := fun ts Q _ => ∃ rows b, ts = [.d (matP rows)] ∧ rows.length ≤ 1000 ∧ (∀ r ∈ rows, r.length ≤ 1000) ∧ (sqB rows = true → rows.length ≤ 4) ∧ (∀ r ∈ rows, SzL b r) ∧ b ≤ 370 ∧ Q (.d (.bool (latB rows))) ts
theorem v_is_lattice (ts Q E) (h : sp_is_lattice ts Q E) : body_is_lattice { nx := fun r => finOk ts r ∧ Q (.d .none) (finF ts r), rt := fun x r => finOk ts r ∧ Q x (finF ts r) } (start3 N_is_lattice ts) := by
  obtain ⟨rows, b, rfl, h1, h2, h3, hB, hb, k⟩ := h
  refine ⟨nd0, rows, rfl, h1, h2, fun hc => ?_, fun hc => ?_⟩
  · obtain ⟨h0, hq⟩ := sqB_iff.mp hc
    refine ⟨nd0, rows, rows.length, b, rfl, hq, h3 hc, hB, hb, ⟨⟩, ?_⟩
    have e : decide ((0 : Int) < ((detN rows.length rows).natAbs : Nat)) = latB rows := by
      unfold latB
      rw [hc, Bool.true_and]
      exact decide_eq_decide.mpr (by omega)
    rw [← e] at k
    exact k
  · have e : latB rows = false := by
      unfold latB
      rw [show sqB rows = false from hc]; rfl
    rw [e] at k
    exact ⟨⟨⟩, k⟩
def sp_need_lattice : Sp3 := fun ts Q _ => ∃ rows b, ts = [.d (matP rows)] ∧ rows.length ≤ 4 ∧ latB rows = true ∧ (∀ r ∈ rows, SzL b r) ∧ b ≤ 370 ∧ Q (.d .none) ts
end L3
namespace L3
open PySem PySem.Spec PyProof.Rows L2
local macro_rules | `(tactic| wtm_at "sh") => `(tactic| conv => whnf)
theorem get_set1 {rows : Mat} {i a : Nat} {x r : List Int} (h : (rows.set i x)[a]? = some r) : (a = i ∧ r = x) ∨ (a ≠ i ∧ rows[a]? = some r) := by
  by_cases e : a = i
  · subst e
    have hlt := (List.getElem?_eq_some_iff.mp h).1
    rw [List.length_set] at hlt
    rw [List.getElem?_set_self hlt] at h
    exact .inl ⟨rfl, (Option.some.inj h).symm⟩
  · rw [List.getElem?_set_ne (Ne.symm e)] at h
    exact .inr ⟨e, h⟩
/-- a row below put so many times to one above: still rows in steps -/
theorem Steps.sub {n a k : Nat} {rows0 rows : Mat} {U V : List Int} (m : Int) (h4 : n ≤ 4) (h0 : Sq n n rows0) (h : Steps n rows0 rows) (hk : a < k) (hU : rows[a]? = some U) (hV : rows[k]? = some V) : Steps n rows0 (rows.set a (vAdd U (-m) V)) := by
  have lU := h.sq.2 U (List.mem_of_getElem? hU)
  have lV := h.sq.2 V (List.mem_of_getElem? hV)
  have al := (List.getElem?_eq_some_iff.mp hU).1
  have lv : (vAdd U (-m) V).length = n := vAdd_len lU lV
  have sq' : Sq n n (rows.set a (vAdd U (-m) V)) := h.sq.set lv
  have uSp := h.sp U (List.mem_of_getElem? hU)
  have vSp := h.sp V (List.mem_of_getElem? hV)
  refine ⟨sq', fun i r hi c hc => ?_, fun i r hi => ?_, ?_, fun r hr => ?_, fun r hr => ?_⟩
  · rcases get_set1 hi with ⟨rfl, rfl⟩ | ⟨_, hi⟩
    · rw [vAdd_getD (by omega), h.tri i _ hU c hc, h.tri k _ hV c (by omega)]; simp
    · exact h.tri i r hi c hc
  · rcases get_set1 hi with ⟨rfl, rfl⟩ | ⟨_, hi⟩
    · rw [vAdd_getD (by omega), h.tri k _ hV i (by omega)]
      have := h.dg i _ hU
      simpa using this
    · exact h.dg i r hi
  · rw [det_add (-m) h4 h.sq (by omega) hU hV, h.dt]
  · rcases List.mem_or_eq_of_mem_set hr with hr | rfl
    · exact h.sp r hr
    · exact uSp.vadd h0 _ vSp
  · refine Span.trans sq' h.sq (fun s hs => ?_) (h.ps r hr)
    obtain ⟨i, hi⟩ := List.getElem?_of_mem hs
    by_cases h1 : i = a
    · subst h1
      rw [hU] at hi
      cases hi
      have mV : V ∈ rows.set i (vAdd U (-m) V) := List.mem_of_getElem? (i := k) (by rw [List.getElem?_set_ne (by omega)]; exact hV)
      have mW : vAdd U (-m) V ∈ rows.set i (vAdd U (-m) V) := List.mem_of_getElem? (i := i) (by rw [List.getElem?_set_self al])
      have z := (Span.of_mem sq' mW).vadd sq' m (.of_mem sq' mV)
      rw [vAdd_back (by omega)] at z
      exact z
    · exact .of_mem sq' (List.mem_of_getElem? (i := i) (by rw [List.getElem?_set_ne (Ne.symm h1)]; exact hi))
theorem prodD_ne : ∀ (o : Nat) (l : Mat), prodD o l ≠ 0 → ∀ (i : Nat) (r : List Int), l[i]? = some r → r.getD (o + i) 0 ≠ 0
  | _, [], _, i, r, h => by simp at h
  | o, x :: l, hn, 0, r, h => by
    have : x = r := by simpa using h
    subst this
    intro e
    exact hn (by show x.getD o 0 * _ = 0; rw [show x.getD o 0 = 0 from e, Int.zero_mul])
  | o, x :: l, hn, i + 1, r, h => by
    have h2 : l[i]? = some r := by simpa using h
    have e : o + (i + 1) = o + 1 + i := by omega
    rw [e]
    exact prodD_ne (o + 1) l (fun z => hn (by show _ * prodD (o + 1) l = 0; rw [z, Int.mul_zero])) i r h2
theorem Steps.pos {n : Nat} {rows0 rows : Mat} (h : Steps n rows0 rows) (hd : detN n rows0 ≠ 0) : ∀ (i : Nat) (r : List Int), rows[i]? = some r → 0 < r.getD i 0 := fun i r hi => by
  have := prodD_ne 0 rows (by rw [h.prod]; omega) i r hi
  rw [Nat.zero_add] at this
  have := h.dg i r hi
  omega
/-- standing rows -/
structure Stand (n : Nat) (rows0 rows : Mat) : Prop where
  st : Steps n rows0 rows
  pos : ∀ (i : Nat) (r : List Int), rows[i]? = some r → 0 < r.getD i 0
  red : ∀ (i j : Nat) (r s : List Int), rows[i]? = some r → rows[j]? = some s → i < j → 0 ≤ r.getD j 0 ∧ r.getD j 0 < s.getD j 0
end L3
namespace L3
open PySem PySem.Spec PyProof.Rows L2
local macro_rules | `(tactic| wtm_at "sh") => `(tactic| conv => whnf)
theorem em_b (x m : Int) (h : 0 < m := by decide) : 0 ≤ x % m ∧ x % m < m := ⟨Int.emod_nonneg x (by omega), Int.emod_lt_of_pos x h⟩
end L3
namespace L3
open PySem PySem.Spec PyProof.Rows L2
local macro_rules | `(tactic| wtm_at "sh") => `(tactic| conv => whnf)
theorem pickA {l : List PyData} {P : Int → Prop} {i : Int} (h0 : 0 ≤ i) (h1 : i < l.length) (h : ∀ z ∈ l, ∃ y, z = .int y ∧ P y) : ∃ y, getI l i = some (.int y) ∧ P y := by
  obtain ⟨z, hz, _, hm⟩ := getI_of h0 h1
  obtain ⟨y, rfl, hp⟩ := h z hm
  exact ⟨y, hz, hp⟩
theorem SzL.of {n : Nat} {U : List Int} (h : ∀ x ∈ U, Sz n x) : SzL n U := fun c => by
  by_cases hc : c < U.length
  · rw [List.getD_eq_getElem?_getD, List.getElem?_eq_getElem hc]
    exact h _ (List.getElem_mem hc)
  · rw [getD_big (by omega)]; unfold Sz; exact Nat.pow_pos (by decide)
end L3
namespace L3
open PySem PySem.Spec PyProof.Rows L2
local macro_rules | `(tactic| wtm_at "sh") => `(tactic| conv => whnf)
/-! ## the law's determinant -/
theorem sumR_sz {f : Nat → Int} {X : Nat} : ∀ {m : Nat}, (∀ k, k < m → (f k).natAbs ≤ X) → (sumR m f).natAbs ≤ m * X
  | 0, _ => by show (0 : Int).natAbs ≤ _; simp
  | m + 1, h => by
    have h1 := sumR_sz (m := m) fun k hk => h k (by omega)
    have h2 := h m (by omega)
    show (sumR m f + f m).natAbs ≤ (m + 1) * X
    have := Int.natAbs_add_le (sumR m f) (f m)
    rw [Nat.add_mul]
    omega
theorem sg_abs (k : Nat) : (sg k).natAbs = 1 := by unfold sg; split <;> rfl
theorem SzL.erase {b k : Nat} {r : List Int} (h : SzL b r) : SzL b (r.eraseIdx k) := fun c => by
  rw [get_erase]
  split
  · exact h _
  · exact h _
theorem det_sz (b : Nat) : ∀ (n : Nat) (rows : Mat), n ≤ 4 → Sq n n rows → (∀ r ∈ rows, SzL b r) → (detN n rows).natAbs ≤ 2 ^ (n * (b + 2))
  | 0, rows, _, _, _ => by show (1 : Int).natAbs ≤ _; simp
  | n + 1, [], _, h, _ => by have := h.1; simp at this
  | n + 1, r :: rest, h4, h, hz => by
    obtain ⟨hr, ht⟩ := h.tail
    show (sumR (n + 1) fun k => r.getD k 0 * sg k * detN n (minor k rest)).natAbs ≤ _
    have := sumR_sz (m := n + 1) (X := 2 ^ b * 2 ^ (n * (b + 2))) (f := fun k => r.getD k 0 * sg k * detN n (minor k rest)) fun k hk => by
      have e1 := hz r (by simp) k
      have e2 := det_sz b n (minor k rest) (by omega) (ht.minor hk) fun x hx => by
        obtain ⟨y, hy, rfl⟩ := List.mem_map.mp hx
        exact (hz y (List.mem_cons_of_mem _ hy)).erase
      rw [Int.natAbs_mul, Int.natAbs_mul, sg_abs, Nat.mul_one]
      exact Nat.mul_le_mul (Nat.le_of_lt e1) e2
    refine Nat.le_trans this ?_
    have e3 : 2 ^ ((n + 1) * (b + 2)) = 4 * (2 ^ b * 2 ^ (n * (b + 2))) := by
      rw [Nat.add_mul, Nat.one_mul, Nat.pow_add, Nat.pow_add]
      grind
    rw [e3]
    exact Nat.mul_le_mul_right _ h4
theorem det_Sz {b n : Nat} {rows : Mat} (h4 : n ≤ 4) (h : Sq n n rows) (hz : ∀ r ∈ rows, SzL b r) : Sz (n * (b + 2) + 1) (detN n rows) := by
  have := det_sz b n rows h4 h hz
  unfold Sz
  rw [Nat.pow_succ]
  have : 0 < 2 ^ (n * (b + 2)) := Nat.pow_pos (by decide)
  omega
theorem erase_cut {r : List Int} {k : Nat} (h : k < r.length) : cutL (r.map PyData.int) none (some (k : Int)) ++ cutL (r.map PyData.int) (some ((k : Int) + 1)) none = (r.eraseIdx k).map PyData.int := by
  rw [cut_take (by rw [List.length_map]; omega), show ((k : Int) + 1) = ((k + 1 : Nat) : Int) from rfl, cut_drop (by rw [List.length_map]; omega), ← List.map_take, ← List.map_drop, ← List.map_append, List.eraseIdx_eq_take_drop_succ]
end L3
namespace L3
open PySem PySem.Spec PyProof.Rows L2
local macro_rules | `(tactic| wtm_at "sh") => `(tactic| conv => whnf)
theorem Stand.sz {n b : Nat} {rows0 rows : Mat} (h4 : n ≤ 4) (h0 : Sq n n rows0) (hz : ∀ r ∈ rows0, SzL b r) (h : Stand n rows0 rows) : ∀ r ∈ rows, SzL (n * (b + 2) + 1) r := by
  have hl := h.st.sq.1
  have hd := det_sz b n rows0 h4 h0 hz
  have hp := h.st.prod
  have pow1 : 0 < 2 ^ (n * (b + 2)) := Nat.pow_pos (by decide)
  have dle : ∀ (o : Nat) (l : Mat), (∀ (i : Nat) (r : List Int), l[i]? = some r → 0 < r.getD (o + i) 0) → 1 ≤ prodD o l ∧ ∀ (i : Nat) (r : List Int), l[i]? = some r → r.getD (o + i) 0 ≤ prodD o l := by
    intro o l
    induction l generalizing o with
    | nil => intro _; exact ⟨by show (1 : Int) ≤ 1; decide, fun i r hi => by simp at hi⟩
    | cons x l ih =>
      intro hx
      obtain ⟨i1, i2⟩ := ih (o + 1) fun i r hi => by
        have := hx (i + 1) r (by simpa using hi)
        rw [show o + 1 + i = o + (i + 1) by omega]
        exact this
      have x0 : 0 < x.getD o 0 := hx 0 x rfl
      have e1 : x.getD o 0 ≤ x.getD o 0 * prodD (o + 1) l := by
        have := Int.mul_le_mul_of_nonneg_left i1 (Int.le_of_lt x0)
        omega
      have e2 : prodD (o + 1) l ≤ x.getD o 0 * prodD (o + 1) l := by
        have := Int.mul_le_mul_of_nonneg_right (show 1 ≤ x.getD o 0 by omega) (show 0 ≤ prodD (o + 1) l by omega)
        omega
      refine ⟨by show 1 ≤ x.getD o 0 * prodD (o + 1) l; omega, fun i r hi => ?_⟩
      show _ ≤ x.getD o 0 * prodD (o + 1) l
      match i, hi with
      | 0, hi =>
        have : x = r := by simpa using hi
        subst this
        exact e1
      | i + 1, hi =>
        have := i2 i r (by simpa using hi)
        rw [show o + (i + 1) = o + 1 + i by omega]
        omega
  obtain ⟨p1, p2⟩ := dle 0 rows fun i r hi => by rw [Nat.zero_add]; exact h.pos i r hi
  intro r hr c
  obtain ⟨i, hi⟩ := List.getElem?_of_mem hr
  have li := (List.getElem?_eq_some_iff.mp hi).1
  have lr := h.st.sq.2 r hr
  unfold Sz
  rw [Nat.pow_succ]
  rcases Nat.lt_trichotomy c i with c1 | c1 | c1
  · rw [h.st.tri i r hi c (by omega)]; simp; omega
  · subst c1
    have := p2 c r hi
    rw [Nat.zero_add] at this
    have := h.pos c r hi
    omega
  · by_cases cn : c < n
    · obtain ⟨s, hs⟩ : ∃ s, rows[c]? = some s := ⟨_, List.getElem?_eq_getElem (by omega)⟩
      have r1 := h.red i c r s hi hs c1
      have := p2 c s hs
      rw [Nat.zero_add] at this
      omega
    · rw [getD_big (by omega)]; simp; omega
end L3
namespace L3
open PySem PySem.Spec PyProof.Rows L2
/-- Cramer's rule, for up to four rows -/
theorem cramer : ∀ (n : Nat) (rows : Mat) (y : List Int), n ≤ 4 → Sq n n rows → y.length = n → ∀ c, c < n → detN n rows * y.getD c 0 = sumR n fun i => detN n (rows.set i y) * (rows.getD i []).getD c 0
  | 0, _, _, _, _, _, c, h => by omega
  | 1, rows, y, _, h, hy, c, hc => by
    have hl : rows.length = 1 := h.1
    match rows, hl, y, hy with
    | [r], _, [y0], _ =>
      obtain ⟨a, rfl⟩ : ∃ a, r = [a] := by
        have := h.2 r (by simp)
        match r, this with | [a], _ => exact ⟨a, rfl⟩
      obtain rfl : c = 0 := by omega
      simp [detN, sumR, minor, sg]
      grind
  | 2, rows, y, _, h, hy, c, hc => by
    have hl : rows.length = 2 := h.1
    match rows, hl with
    | [r, s], _ =>
      obtain ⟨a, b, rfl⟩ := len2 (h.2 r (by simp))
      obtain ⟨d, e, rfl⟩ := len2 (h.2 s (by simp))
      obtain ⟨u, v, rfl⟩ := len2 hy
      rcases (show c = 0 ∨ c = 1 by omega) with rfl | rfl <;> simp [detN, sumR, minor, sg] <;> grind
  | 3, rows, y, _, h, hy, c, hc => by
    have hl : rows.length = 3 := h.1
    match rows, hl with
    | [r, s, t], _ =>
      obtain ⟨a0, a1, a2, rfl⟩ := len3 (h.2 r (by simp))
      obtain ⟨b0, b1, b2, rfl⟩ := len3 (h.2 s (by simp))
      obtain ⟨c0, c1, c2, rfl⟩ := len3 (h.2 t (by simp))
      obtain ⟨y0, y1, y2, rfl⟩ := len3 hy
      rcases (show c = 0 ∨ c = 1 ∨ c = 2 by omega) with rfl | rfl | rfl <;> simp [detN, sumR, minor, sg] <;> grind
  | 4, rows, y, _, h, hy, c, hc => by
    have hl : rows.length = 4 := h.1
    match rows, hl with
    | [r, s, t, z], _ =>
      obtain ⟨a0, a1, a2, a3, rfl⟩ := len4 (h.2 r (by simp))
      obtain ⟨b0, b1, b2, b3, rfl⟩ := len4 (h.2 s (by simp))
      obtain ⟨c0, c1, c2, c3, rfl⟩ := len4 (h.2 t (by simp))
      obtain ⟨d0, d1, d2, d3, rfl⟩ := len4 (h.2 z (by simp))
      obtain ⟨y0, y1, y2, y3, rfl⟩ := len4 hy
      rcases (show c = 0 ∨ c = 1 ∨ c = 2 ∨ c = 3 by omega) with rfl | rfl | rfl | rfl <;> simp [detN, sumR, minor, sg] <;> grind
  | n + 5, _, _, h, _, _, _, _ => by omega
theorem getD_mem {rows : Mat} {k : Nat} (h : k < rows.length) : rows.getD k [] ∈ rows := by
  rw [List.getD_eq_getElem?_getD, List.getElem?_eq_getElem h]
  exact List.getElem_mem h
theorem getD_ext {n : Nat} {x y : List Int} (hx : x.length = n) (hy : y.length = n) (h : ∀ c, c < n → x.getD c 0 = y.getD c 0) : x = y := by
  refine List.ext_getElem (by omega) fun c h1 h2 => ?_
  have := h c (by omega)
  rw [List.getD_eq_getElem?_getD, List.getD_eq_getElem?_getD, List.getElem?_eq_getElem h1, List.getElem?_eq_getElem h2] at this
  exact this
theorem lat_sq {rows : Mat} (h : latB rows = true) : 0 < rows.length ∧ Sq rows.length rows.length rows ∧ detN rows.length rows ≠ 0 := by
  unfold latB at h
  rw [Bool.and_eq_true, decide_eq_true_eq] at h
  have := sqB_iff.mp h.1
  exact ⟨this.1, this.2, h.2⟩
end L3
namespace L3
open PySem PySem.Spec PyProof.Rows L2
local macro_rules | `(tactic| wtm_at "sh") => `(tactic| conv => whnf)
end L3
namespace L3
open PySem PySem.Spec PyProof.Rows L2
local macro_rules | `(tactic| wtm_at "sh") => `(tactic| conv => whnf)
/-- so wide at most, and of such numbers -/
def RowOk (r : List Int) : Prop := r.length ≤ 5 ∧ SzL 1000 r
theorem RowOk.of {n b : Nat} {r : List Int} (h : r.length = n) (hn : n ≤ 4) (hz : SzL b r) (hb : b ≤ 1000) : RowOk r := ⟨by omega, hz.mono hb⟩
theorem SzL.set {b i : Nat} {r : List Int} {x : Int} (h : SzL b r) (hx : Sz b x) : SzL b (r.set i x) := SzL.of fun y hy => by
  rcases List.mem_or_eq_of_mem_set hy with h1 | rfl
  · exact h.mem h1
  · exact hx
end L3
namespace L3
open PySem PySem.Spec PyProof.Rows L2
local macro_rules | `(tactic| wtm_at "sh") => `(tactic| conv => whnf)
def MatOk (M : Mat) : Prop := M.length ≤ 4 ∧ ∀ r ∈ M, RowOk r
end L3
namespace L3
open PySem PySem.Spec PyProof.Rows L2
/-! ## products of rows, and what they span -/
def dot : List Int → List Int → Int
  | a :: x, b :: y => a * b + dot x y
  | _, _ => 0
theorem dot_comm : ∀ (x y : List Int), dot x y = dot y x
  | [], [] => rfl
  | [], _ :: _ => rfl
  | _ :: _, [] => rfl
  | a :: x, b :: y => by
    show a * b + dot x y = b * a + dot y x
    rw [dot_comm x y, Int.mul_comm]
theorem dot_vAdd : ∀ (z x y : List Int) (m : Int), x.length = y.length → dot z (vAdd x m y) = dot z x + m * dot z y
  | [], x, y, m, _ => by
    have e : ∀ l, dot [] l = 0 := fun l => by cases l <;> rfl
    rw [e, e, e]; simp
  | c :: z, [], [], m, _ => by show (0 : Int) = 0 + m * 0; simp
  | c :: z, a :: x, b :: y, m, h => by
    show c * (a + m * b) + dot z (vAdd x m y) = c * a + dot z x + m * (c * b + dot z y)
    rw [dot_vAdd z x y m (by simpa using h)]
    grind
theorem vAdd_dot (z x y : List Int) (m : Int) (h : x.length = y.length) : dot (vAdd x m y) z = dot x z + m * dot y z := by
  rw [dot_comm, dot_vAdd z x y m h, dot_comm z x, dot_comm z y]
theorem dot_self : ∀ (x : List Int), 0 ≤ dot x x ∧ (dot x x = 0 → x = List.replicate x.length 0)
  | [] => ⟨Int.le_refl _, fun _ => rfl⟩
  | a :: x => by
    obtain ⟨h1, h2⟩ := dot_self x
    have e : dot (a :: x) (a :: x) = a * a + dot x x := rfl
    have ha : 0 ≤ a * a := by
      rcases Int.le_total 0 a with h | h
      · exact Int.mul_nonneg h h
      · exact Int.mul_nonneg_of_nonpos_of_nonpos h h
    refine ⟨by omega, fun hz => ?_⟩
    have ha0 : a * a = 0 := by omega
    have : a = 0 := by rcases Int.mul_eq_zero.mp ha0 with h | h <;> exact h
    subst this
    show 0 :: x = 0 :: List.replicate x.length 0
    rw [← h2 (by omega)]
def pr (x : List Int) (ys : Mat) : List Int := ys.map fun y => dot x y
def gm (xs ys : Mat) : Mat := xs.map fun x => pr x ys
theorem pr_vAdd {x y : List Int} {m : Int} (ys : Mat) (h : x.length = y.length) : pr (vAdd x m y) ys = vAdd (pr x ys) m (pr y ys) := by
  induction ys with
  | nil => rfl
  | cons z ys ih =>
    show dot (vAdd x m y) z :: pr (vAdd x m y) ys = (dot x z + m * dot y z) :: vAdd (pr x ys) m (pr y ys)
    rw [ih, vAdd_dot z x y m h]
theorem pr_len (x : List Int) (ys : Mat) : (pr x ys).length = ys.length := List.length_map ..
theorem gm_set (xs ys : Mat) (i : Nat) (x : List Int) : gm (xs.set i x) ys = (gm xs ys).set i (pr x ys) := by
  unfold gm; rw [List.map_set]
theorem gm_sq {xs ys : Mat} {n m : Nat} (h : xs.length = n) (k : ys.length = m) : Sq n m (gm xs ys) := ⟨by unfold gm; rw [List.length_map]; exact h, fun r hr => by
  unfold gm at hr
  obtain ⟨x, _, rfl⟩ := List.mem_map.mp hr
  rw [pr_len]; exact k⟩
theorem gm_get {xs ys : Mat} {i : Nat} {x : List Int} (h : xs[i]? = some x) : (gm xs ys)[i]? = some (pr x ys) := by
  unfold gm; rw [List.getElem?_map, h]; rfl
/-- the determinant of products is the same when both sides are exchanged -/
theorem gm_T : ∀ (n : Nat) (xs ys : Mat), n ≤ 4 → xs.length = n → ys.length = n → detN n (gm xs ys) = detN n (gm ys xs)
  | 0, _, _, _, _, _ => rfl
  | 1, [x], [y], _, _, _ => by
    simp [gm, pr, detN, sumR, minor, sg, dot_comm x y]
  | 2, [x0, x1], [y0, y1], _, _, _ => by
    simp [gm, pr, detN, sumR, minor, sg]
    rw [dot_comm y0 x0, dot_comm y0 x1, dot_comm y1 x0, dot_comm y1 x1]
    grind
  | 3, [x0, x1, x2], [y0, y1, y2], _, _, _ => by
    simp [gm, pr, detN, sumR, minor, sg]
    rw [dot_comm y0 x0, dot_comm y0 x1, dot_comm y0 x2, dot_comm y1 x0, dot_comm y1 x1, dot_comm y1 x2, dot_comm y2 x0, dot_comm y2 x1, dot_comm y2 x2]
    grind
  | 4, [x0, x1, x2, x3], [y0, y1, y2, y3], _, _, _ => by
    simp [gm, pr, detN, sumR, minor, sg]
    rw [dot_comm y0 x0, dot_comm y0 x1, dot_comm y0 x2, dot_comm y0 x3, dot_comm y1 x0, dot_comm y1 x1, dot_comm y1 x2, dot_comm y1 x3, dot_comm y2 x0, dot_comm y2 x1, dot_comm y2 x2, dot_comm y2 x3, dot_comm y3 x0, dot_comm y3 x1, dot_comm y3 x2, dot_comm y3 x3]
    grind
  | n + 5, _, _, h, _, _ => by omega
/-- products' determinant with one more row on either side -/
def Mu (rows : Mat) (a : Nat) (x y : List Int) : Int := detN (a + 1) (gm (rows.take a ++ [x]) (rows.take a ++ [y]))
/-- what the first rows span, squared -/
def Dd (rows : Mat) (a : Nat) : Int := detN a (gm (rows.take a) (rows.take a))
theorem Dd_succ {rows : Mat} {a : Nat} {r : List Int} (h : rows[a]? = some r) : Dd rows (a + 1) = Mu rows a r r := by
  unfold Dd Mu
  rw [take_succ h]
theorem Dd_zero (rows : Mat) : Dd rows 0 = 1 := rfl
/-- Sylvester's identity -/
theorem syl : ∀ (a : Nat) (rows : Mat) (r x y : List Int), a ≤ 2 → rows[a]? = some r → Mu rows a r r * Mu rows a x y - Mu rows a x r * Mu rows a r y = Dd rows a * Mu rows (a + 1) x y
  | 0, r0 :: rest, r, x, y, _, h => by
    obtain rfl : r0 = r := by simpa using h
    simp [Mu, Dd, gm, pr, detN, sumR, minor, sg]
    grind
  | 1, r0 :: r1 :: rest, r, x, y, _, h => by
    obtain rfl : r1 = r := by simpa using h
    simp [Mu, Dd, gm, pr, detN, sumR, minor, sg]
    grind
  | 2, r0 :: r1 :: r2 :: rest, r, x, y, _, h => by
    obtain rfl : r2 = r := by simpa using h
    simp [Mu, Dd, gm, pr, detN, sumR, minor, sg]
    grind
  | 0, [], _, _, _, _, h => by simp at h
  | 1, [], _, _, _, _, h => by simp at h
  | 1, [_], _, _, _, _, h => by simp at h
  | 2, [], _, _, _, _, h => by simp at h
  | 2, [_], _, _, _, _, h => by simp at h
  | 2, [_, _], _, _, _, _, h => by simp at h
  | a + 3, _, _, _, _, h, _ => by omega
end L3
namespace L3
open PySem PySem.Spec PyProof.Rows L2
theorem set_last {α : Type} (l : List α) (x v : α) : (l ++ [x]).set l.length v = l ++ [v] := by
  induction l with
  | nil => rfl
  | cons y l ih => show y :: (l ++ [x]).set l.length v = y :: (l ++ [v]); rw [ih]
theorem take_len {rows : Mat} {a : Nat} (h : a ≤ rows.length) : (rows.take a).length = a := by rw [List.length_take]; omega
theorem gm_last {rows : Mat} {a : Nat} {x v : List Int} (ys : Mat) (h : a ≤ rows.length) : gm (rows.take a ++ [v]) ys = (gm (rows.take a ++ [x]) ys).set a (pr v ys) := by
  rw [← gm_set]
  congr 1
  have := set_last (rows.take a) x v
  rw [take_len h] at this
  exact this.symm
theorem one_len {l : Mat} {a : Nat} {x : List Int} (h : l.length = a) : (l ++ [x]).length = a + 1 := by rw [List.length_append, h]; rfl
theorem Mu_symm {rows : Mat} {a : Nat} {x y : List Int} (ha : a ≤ 3) (h : a ≤ rows.length) : Mu rows a x y = Mu rows a y x :=
  gm_T (a + 1) _ _ (by omega) (one_len (take_len h)) (one_len (take_len h))
theorem Mu_linL {rows : Mat} {a : Nat} {x x' y : List Int} {m : Int} (h : a ≤ rows.length) (hl : x.length = x'.length) : Mu rows a (vAdd x m x') y = Mu rows a x y + m * Mu rows a x' y := by
  unfold Mu
  have l1 := take_len h
  have sq : Sq (a + 1) (a + 1) (gm (rows.take a ++ [x]) (rows.take a ++ [y])) := gm_sq (one_len l1) (one_len l1)
  rw [gm_last (x := x) (v := vAdd x m x') _ h, pr_vAdd _ hl, det_lin (a + 1) _ a _ _ m sq (by omega) (by rw [pr_len]; exact one_len l1) (by rw [pr_len]; exact one_len l1), ← gm_last _ h, ← gm_last _ h]
theorem Mu_linR {rows : Mat} {a : Nat} {x y y' : List Int} {m : Int} (ha : a ≤ 3) (h : a ≤ rows.length) (hl : y.length = y'.length) : Mu rows a x (vAdd y m y') = Mu rows a x y + m * Mu rows a x y' := by
  rw [Mu_symm ha h, Mu_linL h hl, Mu_symm ha h, Mu_symm (x := y') ha h]
theorem Mu_altL {rows : Mat} {a i : Nat} {r y : List Int} (ha : a ≤ 3) (h : a ≤ rows.length) (hi : i < a) (hr : rows[i]? = some r) : Mu rows a r y = 0 := by
  unfold Mu
  have l1 := take_len h
  have e1 : (rows.take a ++ [r])[i]? = some r := by rw [List.getElem?_append_left (by omega), List.getElem?_take, if_pos hi]; exact hr
  have e2 : (rows.take a ++ [r])[a]? = some r := by rw [List.getElem?_append_right (by omega), l1]; simp
  exact det_alt' (by omega) (gm_sq (one_len l1) (one_len l1)) (show i ≠ a by omega) (gm_get e1) (gm_get e2)
theorem Mu_altR {rows : Mat} {a i : Nat} {r x : List Int} (ha : a ≤ 3) (h : a ≤ rows.length) (hi : i < a) (hr : rows[i]? = some r) : Mu rows a x r = 0 := by
  rw [Mu_symm ha h]; exact Mu_altL ha h hi hr
theorem scale_vAdd (k : Int) (x : List Int) : x.map (k * ·) = vAdd x (k - 1) x := by
  unfold vAdd
  rw [List.zipWith_self]
  exact List.map_congr_left fun a _ => by grind
theorem Mu_scaleL {rows : Mat} {a : Nat} {x y : List Int} {k : Int} (h : a ≤ rows.length) : Mu rows a (x.map (k * ·)) y = k * Mu rows a x y := by
  rw [scale_vAdd, Mu_linL h rfl]; grind
theorem Mu_scaleR {rows : Mat} {a : Nat} {x y : List Int} {k : Int} (ha : a ≤ 3) (h : a ≤ rows.length) : Mu rows a x (y.map (k * ·)) = k * Mu rows a x y := by
  rw [Mu_symm ha h, Mu_scaleL h, Mu_symm ha h]
/-- so many times a row is one of those ahead -/
def IsDep (n : Nat) (rows : Mat) (a : Nat) (y : List Int) : Prop := ∃ k : Int, 0 < k ∧ Span n (rows.take a) (y.map (k * ·))
theorem scale_len (k : Int) (x : List Int) : (x.map (k * ·)).length = x.length := List.length_map ..
theorem take_sq {m n a : Nat} {rows : Mat} (h : Sq m n rows) (ha : a ≤ m) : Sq a n (rows.take a) := ⟨take_len (by rw [h.1]; exact ha), fun r hr => h.2 r (List.mem_of_mem_take hr)⟩
theorem Span.mono {n : Nat} {rows rows' : Mat} {x : List Int} (s : Span n rows x) (h : ∀ r ∈ rows, r ∈ rows') : Span n rows' x := by
  induction s with
  | zero => exact .zero
  | add k _ hr ih => exact .add k ih (h _ hr)
theorem Mu_zero (rows : Mat) (x y : List Int) : Mu rows 0 x y = dot x y := by
  simp [Mu, gm, pr, detN, sumR, minor, sg]
theorem mu_pos {m n : Nat} {rows : Mat} (h : Sq m n rows) : ∀ (a : Nat), a ≤ 3 → a ≤ m → (∀ b, b < a → 0 < Dd rows (b + 1)) → ∀ y : List Int, y.length = n → 0 ≤ Mu rows a y y ∧ (Mu rows a y y = 0 → IsDep n rows a y)
  | 0, _, _, _, y, hy => by
    rw [Mu_zero]
    refine ⟨(dot_self y).1, fun hz => ⟨1, by decide, ?_⟩⟩
    have e : y.map (1 * ·) = List.replicate n 0 := by
      rw [← hy, ← (dot_self y).2 hz]; simp
    rw [e]
    exact .zero
  | a + 1, ha, hm, hp, y, hy => by
    have hl := h.1
    obtain ⟨r, hr⟩ : ∃ r, rows[a]? = some r := ⟨_, List.getElem?_eq_getElem (by omega)⟩
    have lr := h.2 r (List.mem_of_getElem? hr)
    have ih := mu_pos h a (by omega) (by omega) fun b hb => hp b (by omega)
    have hD : 0 < Mu rows a r r := by rw [← Dd_succ hr]; exact hp a (by omega)
    have hd0 : 0 < Dd rows a := by
      match a, hp with
      | 0, _ => rw [Dd_zero]; decide
      | a + 1, hp => exact hp a (by omega)
    have hs := syl a rows r y y (by omega) hr
    have sy : Mu rows a r y = Mu rows a y r := Mu_symm (by omega) (by omega)
    rw [sy] at hs
    have lt : (y.map (Mu rows a r r * ·)).length = r.length := by rw [scale_len]; omega
    obtain ⟨i1, i2⟩ := ih (vAdd (y.map (Mu rows a r r * ·)) (-(Mu rows a y r)) r) (vAdd_len (by rw [scale_len]; exact hy) lr)
    have et : Mu rows a (vAdd (y.map (Mu rows a r r * ·)) (-(Mu rows a y r)) r) (vAdd (y.map (Mu rows a r r * ·)) (-(Mu rows a y r)) r) = Mu rows a r r * (Dd rows a * Mu rows (a + 1) y y) := by
      rw [Mu_linL (by omega) lt, Mu_linR (by omega) (by omega) lt, Mu_linR (by omega) (by omega) lt, Mu_scaleL (by omega), Mu_scaleL (by omega), Mu_scaleR (by omega) (by omega), Mu_scaleR (by omega) (by omega), sy, ← hs]
      grind
    rw [et] at i1 i2
    have p1 : 0 < Mu rows a r r * Dd rows a := Int.mul_pos hD hd0
    refine ⟨?_, fun hz => ?_⟩
    · rcases Int.lt_or_le (Mu rows (a + 1) y y) 0 with c | c
      · have : Mu rows a r r * Dd rows a * Mu rows (a + 1) y y < 0 := Int.mul_neg_of_pos_of_neg p1 c
        rw [Int.mul_assoc] at this
        omega
      · exact c
    · obtain ⟨k, k0, sp⟩ := i2 (by rw [hz]; simp)
      refine ⟨k * Mu rows a r r, Int.mul_pos k0 hD, ?_⟩
      have mem : r ∈ rows.take (a + 1) := by rw [take_succ hr]; simp
      have sp2 := Span.add (k * Mu rows a y r) (sp.mono (rows' := rows.take (a + 1)) fun r hr => by rw [show rows.take a = (rows.take (a + 1)).take a by rw [List.take_take, Nat.min_eq_left (Nat.le_succ a)]] at hr; exact List.mem_of_mem_take hr) mem
      have e : vAdd ((vAdd (y.map (Mu rows a r r * ·)) (-(Mu rows a y r)) r).map (k * ·)) (k * Mu rows a y r) r = y.map (k * Mu rows a r r * ·) := by
        unfold vAdd
        refine List.ext_getElem (by simp only [List.length_zipWith, List.length_map]; omega) fun i h1 h2 => ?_
        simp only [List.getElem_zipWith, List.getElem_map]
        grind
      rw [e] at sp2
      exact sp2
/-- a row that follows from those ahead: nothing is spanned -/
theorem dep_det {n a : Nat} {rows : Mat} {r : List Int} (h4 : n ≤ 4) (h : Sq n n rows) (hr : rows[a]? = some r) (hd : IsDep n rows a r) : detN n rows = 0 := by
  obtain ⟨k, k0, sp⟩ := hd
  have hl := h.1
  have al := (List.getElem?_eq_some_iff.mp hr).1
  have z : ∀ x, Span n (rows.take a) x → detN n (rows.set a x) = 0 := by
    intro x s
    induction s with
    | zero =>
      have e : (List.replicate n (0 : Int)) = (List.replicate n (0 : Int)).map (0 * ·) := by simp
      rw [e, det_scale 0 h (by omega) (by simp), Int.zero_mul]
    | @add x s m sx hs ih =>
      obtain ⟨i, hi⟩ := List.getElem?_of_mem hs
      have hia : i < a := by have := (List.getElem?_eq_some_iff.mp hi).1; rw [List.length_take] at this; omega
      rw [List.getElem?_take, if_pos hia] at hi
      have ls := h.2 s (List.mem_of_getElem? hi)
      rw [det_lin n rows a x s m h (by omega) (sx.len (take_sq h (by omega))) ls, ih, det_alt' (x := s) (i := i) (j := a) h4 (h.set ls) (by omega) (by rw [List.getElem?_set_ne (by omega)]; exact hi) (by rw [List.getElem?_set_self al])]
      simp
  have := z _ sp
  rw [det_scale k h (by omega) (h.2 r (List.mem_of_getElem? hr)), set_same hr] at this
  rcases Int.mul_eq_zero.mp this with q | q
  · omega
  · exact q
theorem Dd_pos {n : Nat} {rows : Mat} (h4 : n ≤ 4) (h : Sq n n rows) (hd : detN n rows ≠ 0) : ∀ a, a ≤ n → 0 < Dd rows a
  | 0, _ => by rw [Dd_zero]; decide
  | a + 1, ha => by
    have hl := h.1
    obtain ⟨r, hr⟩ : ∃ r, rows[a]? = some r := ⟨_, List.getElem?_eq_getElem (by omega)⟩
    obtain ⟨p1, p2⟩ := mu_pos h a (by omega) (by omega) (fun b hb => Dd_pos h4 h hd (b + 1) (by omega)) r (h.2 r (List.mem_of_getElem? hr))
    rw [Dd_succ hr]
    rcases Int.lt_or_le 0 (Mu rows a r r) with c | c
    · exact c
    · exact absurd (dep_det h4 h hr (p2 (by omega))) hd
/-- a row ahead put so many times to one behind: the spans stay -/
theorem Dd_add {n i j a : Nat} {rows : Mat} {U V : List Int} {m : Int} (h4 : n ≤ 4) (h : Sq n n rows) (hj : j < i) (hU : rows[i]? = some U) (hV : rows[j]? = some V) (ha : a ≤ n) : Dd (rows.set i (vAdd U m V)) a = Dd rows a := by
  have hl := h.1
  have lU := h.2 U (List.mem_of_getElem? hU)
  have lV := h.2 V (List.mem_of_getElem? hV)
  unfold Dd
  by_cases hia : i < a
  · have e : (rows.set i (vAdd U m V)).take a = (rows.take a).set i (vAdd U m V) := by rw [List.take_set]
    have l1 := take_len (rows := rows) (a := a) (by omega)
    have gU : (rows.take a)[i]? = some U := by rw [List.getElem?_take, if_pos hia]; exact hU
    have gV : (rows.take a)[j]? = some V := by rw [List.getElem?_take, if_pos (by omega)]; exact hV
    have step : ∀ ys : Mat, ys.length = a → detN a (gm ((rows.take a).set i (vAdd U m V)) ys) = detN a (gm (rows.take a) ys) := fun ys ly => by
      rw [gm_set, pr_vAdd ys (by omega)]
      exact det_add m (by omega) (gm_sq l1 ly) (by omega) (gm_get gU) (gm_get gV)
    rw [e, step _ (by rw [List.length_set]; exact l1), gm_T a _ _ (by omega) l1 (by rw [List.length_set]; exact l1), step _ l1]
  · rw [List.take_set, List.set_eq_of_length_le (by rw [List.length_take]; omega)]
theorem Dd_swap {n i a : Nat} {rows : Mat} {U V : List Int} (h4 : n ≤ 4) (h : Sq n n rows) (hU : rows[i]? = some U) (hV : rows[i + 1]? = some V) (ha : a ≤ n) (hne : a ≠ i + 1) : Dd ((rows.set i V).set (i + 1) U) a = Dd rows a := by
  have hl := h.1
  unfold Dd
  by_cases hia : i + 1 < a
  · have e : ((rows.set i V).set (i + 1) U).take a = ((rows.take a).set i V).set (i + 1) U := by rw [List.take_set, List.take_set]
    have l1 := take_len (rows := rows) (a := a) (by omega)
    have gU : (rows.take a)[i]? = some U := by rw [List.getElem?_take, if_pos (by omega)]; exact hU
    have gV : (rows.take a)[i + 1]? = some V := by rw [List.getElem?_take, if_pos hia]; exact hV
    have step : ∀ ys : Mat, ys.length = a → detN a (gm (((rows.take a).set i V).set (i + 1) U) ys) = - detN a (gm (rows.take a) ys) := fun ys ly => by
      rw [gm_set, gm_set]
      exact det_swap (by omega) (gm_sq l1 ly) (by omega) (gm_get gU) (gm_get gV)
    have l2 : (((rows.take a).set i V).set (i + 1) U).length = a := by rw [List.length_set, List.length_set]; exact l1
    rw [e, step _ l2, gm_T a _ _ (by omega) l1 l2, step _ l1, Int.neg_neg]
  · rw [List.take_set, List.take_set, List.set_eq_of_length_le (by rw [List.length_set, List.length_take]; omega), List.set_eq_of_length_le (by rw [List.length_take]; omega)]
theorem Dd_swapped {i : Nat} {rows : Mat} {U V : List Int} (hU : rows[i]? = some U) (hV : rows[i + 1]? = some V) : Dd ((rows.set i V).set (i + 1) U) (i + 1) = Mu rows i V V := by
  have hi := (List.getElem?_eq_some_iff.mp hU).1
  have e : ((rows.set i V).set (i + 1) U)[i]? = some V := by rw [List.getElem?_set_ne (by omega), List.getElem?_set_self hi]
  rw [Dd_succ e]
  unfold Mu
  rw [List.take_set, List.take_set, List.set_eq_of_length_le (by rw [List.length_set, List.length_take]; omega), List.set_eq_of_length_le (by rw [List.length_take]; omega)]
end L3
set_option pp.maxSteps 600
namespace L3
open PySem PySem.Spec PyProof.Rows L2
local macro_rules | `(tactic| wtm_at "sh") => `(tactic| conv => whnf)
def N_product_of : List Str := ["one", "other", "left", "right"]
def body_product_of : TS3 := (xRet (xD (x1 cSum (xFz (xLc (xZipX (xView 0) (xView 1)) (xGTup 2 (xGCons (xGName 2) (xGCons (xGName 3) xGNil))) xYes (xD (x2 kMul (xView 2) (xView 3))) [2, 3])))))
def sp_product_of : Sp3 := fun ts Q _ => ∃ p q x y n k, ts = [.d (seqB p x), .d (seqB q y)] ∧ (∀ a ∈ x, Sz n a) ∧ (∀ a ∈ y, Sz k a) ∧ n + k < 1000000 ∧ x.length ≤ 1000 ∧ y.length = x.length ∧ Q (.d (.int (dot x y))) ts
theorem dot_sum : ∀ (x y : List Int), (List.zipWith (fun a b => a * b) x y).sum = dot x y
  | [], [] => rfl
  | [], _ :: _ => rfl
  | _ :: _, [] => rfl
  | a :: x, b :: y => by
    show (a * b :: List.zipWith (fun a b => a * b) x y).sum = a * b + dot x y
    rw [List.sum_cons, dot_sum x y]
theorem intL_map (l : List Int) : intL (l.map PyData.int) = l := by
  induction l with
  | nil => rfl
  | cons x l ih => show x :: intL (l.map PyData.int) = x :: l; rw [ih]
theorem v_product_of (ts Q E) (h : sp_product_of ts Q E) : body_product_of { nx := fun r => finOk ts r ∧ Q (.d .none) (finF ts r), rt := fun x r => finOk ts r ∧ Q x (finF ts r) } (start3 N_product_of ts) := by
  obtain ⟨p, q, x, y, n, k, rfl, hx, hy, hnk, hlen, hl, kk⟩ := h
  have hb2 : 1000 < sizeLine := by decide
  have lz : (List.zipWith (fun a b : Int => a * b) x y).length = x.length := by rw [List.length_zipWith]; omega
  refine ⟨_, _, seqB_of p x, seqB_of q y, lc_gen ((List.zipWith (fun a b : Int => a * b) x y).map PyData.int) (by rw [zipD_len, List.length_map, List.length_map, List.length_map]; omega) (by rw [zipD_len, List.length_map, List.length_map]; omega) (fun r0 h0 i u w hu hw R S ku => ?_) fun r0 h0 pa => ?_⟩
  · simp only [wp, puts, List.set_cons_succ, List.set_cons_zero] at h0; subst h0
    obtain ⟨a, b, ha, hb, rfl⟩ := zip_at hu
    have hw2 : (List.zipWith (fun a b : Int => a * b) x y)[i]? = some (a * b) := by rw [List.getElem?_zipWith, ha, hb]
    rw [List.getElem?_map, hw2] at hw
    cases hw
    exact ⟨rfl, fun _ => ⟨mulOk (hx a (List.mem_of_getElem? ha)) (hy b (List.mem_of_getElem? hb)) hnk, ku _ rfl⟩, nofun⟩
  · simp only [wp, puts, List.set_cons_succ, List.set_cons_zero] at h0; subst h0
    refine ⟨nvs_d _, ?_⟩
    rw [fz_outs]
    refine ⟨allI_map _, ⟨⟩, ?_⟩
    rw [intL_map, dot_sum]
    exact kk
theorem dot_sz {n k : Nat} : ∀ (x y : List Int), (∀ a ∈ x, Sz n a) → (∀ a ∈ y, Sz k a) → (dot x y).natAbs ≤ x.length * 2 ^ (n + k)
  | [], [], _, _ => by show (0 : Int).natAbs ≤ _; simp
  | [], _ :: _, _, _ => by show (0 : Int).natAbs ≤ _; simp
  | _ :: _, [], _, _ => by show (0 : Int).natAbs ≤ _; simp
  | a :: x, b :: y, hx, hy => by
    have h1 := dot_sz x y (fun a h => hx a (List.mem_cons_of_mem _ h)) fun a h => hy a (List.mem_cons_of_mem _ h)
    have h2 : (a * b).natAbs < 2 ^ (n + k) := (hx a (List.mem_cons_self ..)).mul (hy b (List.mem_cons_self ..))
    have h3 := Int.natAbs_add_le (a * b) (dot x y)
    show (a * b + dot x y).natAbs ≤ (x.length + 1) * 2 ^ (n + k)
    rw [Nat.add_mul]
    omega
theorem dot_Sz {n b : Nat} {x y : List Int} (h4 : n ≤ 4) (hx : x.length = n) (zx : SzL b x) (zy : SzL b y) : Sz (2 * b + 3) (dot x y) := by
  have h := dot_sz (n := b) (k := b) x y (fun a h => zx.mem h) fun a h => zy.mem h
  unfold Sz
  rw [hx] at h
  have h2 : n * 2 ^ (b + b) ≤ 4 * 2 ^ (b + b) := Nat.mul_le_mul_right _ h4
  rw [show 2 * b + 3 = (b + b) + 3 by omega, Nat.pow_add]
  have : 0 < 2 ^ (b + b) := Nat.pow_pos (by decide)
  omega
theorem pr_Sz {n b : Nat} {x : List Int} {ys : Mat} (h4 : n ≤ 4) (hx : x.length = n) (zx : SzL b x) (zy : ∀ y ∈ ys, SzL b y) : SzL (2 * b + 3) (pr x ys) := SzL.of fun v hv => by
  unfold pr at hv
  obtain ⟨y, hy, rfl⟩ := List.mem_map.mp hv
  exact dot_Sz h4 hx zx (zy y hy)
theorem Mu_Sz {m n b a : Nat} {rows : Mat} {x y : List Int} (h4 : n ≤ 4) (h : Sq m n rows) (ha : a ≤ 3) (ham : a ≤ m) (hz : ∀ r ∈ rows, SzL b r) (hx : x.length = n) (zx : SzL b x) (zy : SzL b y) : Sz (8 * b + 21) (Mu rows a x y) := by
  have l1 := take_len (rows := rows) (a := a) (by rw [h.1]; exact ham)
  have z2 : ∀ v ∈ rows.take a ++ [y], SzL b v := fun v hv => by
    rcases List.mem_append.mp hv with q | q
    · exact hz v (List.mem_of_mem_take q)
    · rw [List.mem_singleton.mp q]; exact zy
  have z3 : ∀ r ∈ gm (rows.take a ++ [x]) (rows.take a ++ [y]), SzL (2 * b + 3) r := fun r hr => by
    unfold gm at hr
    obtain ⟨v, hv, rfl⟩ := List.mem_map.mp hr
    rcases List.mem_append.mp hv with q | q
    · exact pr_Sz h4 (h.2 v (List.mem_of_mem_take q)) (hz v (List.mem_of_mem_take q)) z2
    · rw [List.mem_singleton.mp q]; exact pr_Sz h4 hx zx z2
  have := det_Sz (n := a + 1) (by omega) (gm_sq (one_len l1) (one_len l1)) z3
  have e : (a + 1) * (2 * b + 3 + 2) ≤ 4 * (2 * b + 3 + 2) := Nat.mul_le_mul_right _ (by omega)
  exact this.mono (by omega)
/-- the share of a row at a place, times what is spanned -/
def lam (rows : Mat) (i j : Nat) : Int := Mu rows j (rows.getD j []) (rows.getD i [])
def L1_shares_of : TS3 := (xFor (xR1 (xView 6)) (xGName 8) (xSeq (xAsg (xBor (xD (x2 cIx (x2 cIx (xFz (x2 cAdd (xView 2) (xFz (xLst (xCons (xMove 5) xNil))))) (xView 6)) (xView 8)))) (xGName 9))
  (xAsg (xD (x2 kDiv (x2 kSub (x2 kMul (x2 cIx (xView 1) (x2 kAdd (xView 8) (xC (.int 1)))) (xView 7)) (x2 kMul (x2 cIx (xView 5) (xView 8)) (xView 9))) (x2 cIx (xView 1) (xView 8)))) (xGName 7))))
def L2_shares_of : TS3 := (xFor (xR1 (x2 kAdd (xView 3) (xC (.int 1)))) (xGName 6) (xSeq (xAsg (xCall sp_product_of xNoE (xArg (xView 4) (xArg (x2 cIx (xView 0) (xView 6)) xANil))) (xGName 7))
  (xSeq L1_shares_of
  (xDrop (xApp 5 (xMove 7))))))
def L3_shares_of : TS3 := (xFor (xEnumX (xView 0)) (xGTup 2 (xGCons (xGName 3) (xGCons (xGName 4) xGNil))) (xSeq (xAsg (xLst xNil) (xGName 5))
  (xSeq L2_shares_of
  (xSeq (xDrop (xApp 1 (xD (x2 cIx (xView 5) (xView 3)))))
  (xDrop (xApp 2 (xMove 5)))))))
def N_shares_of : List Str := ["rows", "spans", "shares", "at", "row", "own", "place", "number", "ahead", "beside"]
def body_shares_of : TS3 := (xSeq (xAsg (xLst (xCons (xD (xC (.int 1))) xNil)) (xGName 1))
  (xSeq (xAsg (xLst xNil) (xGName 2))
  (xSeq L3_shares_of
  (xRet (xTup (xCons (xMove 2) (xCons (xMove 1) xNil)))))))
/-- rows as a tuple of tuples, or a list of lists -/
def matB (b : Bool) (rows : Mat) : PyData := match b with | true => matP rows | false => .list (rows.map rowD)
def lamR (rows : Mat) (i k : Nat) : List Int := (List.range k).map fun j => lam rows i j
def shT (rows : Mat) (f : Nat → Addr) (m : Nat) : List T := (List.range m).map fun i => T.own (f i) ((lamR rows i (i + 1)).map fun x => T.d (.int x))
def spL (rows : Mat) (k : Nat) : List Int := (List.range k).map fun j => Dd rows j
def sp_shares_of : Sp3 := fun ts Q _ => ∃ rb rows m n b, ts = [.d (matB rb rows)] ∧ Sq m n rows ∧ m ≤ 4 ∧ n ≤ 4 ∧ (∀ a, a < m → 0 < Dd rows a) ∧ (∀ a, a < m → Sz 8999 (Dd rows a)) ∧ (∀ r ∈ rows, SzL b r) ∧ b ≤ 60000 ∧ ∀ ps pq f, Q (.tp [.own ps (shT rows f m), .own pq ((spL rows (m + 1)).map fun x => T.d (.int x))]) ts
theorem lamR_get {rows : Mat} {i k j : Nat} (h : j < k) : getI ((lamR rows i k).map PyData.int) (j : Nat) = some (.int (lam rows i j)) := by
  refine getI_at rfl ?_
  unfold lamR
  rw [List.getElem?_map, List.getElem?_map, List.getElem?_range h]; rfl
theorem lamO_get {rows : Mat} {i k j : Nat} (h : j < k) : getI ((lamR rows i k).map fun x => T.d (.int x)) (j : Nat) = some (.d (.int (lam rows i j))) := by
  refine getI_at rfl ?_
  unfold lamR
  rw [List.getElem?_map, List.getElem?_map, List.getElem?_range h]; rfl
theorem spO_get {rows : Mat} {k j : Nat} {jj : Int} (e : jj = (j : Nat)) (h : j < k) : getI ((spL rows k).map fun x => T.d (.int x)) jj = some (.d (.int (Dd rows j))) := by
  refine getI_at e ?_
  unfold spL
  rw [List.getElem?_map, List.getElem?_map, List.getElem?_range h]; rfl
theorem lamR_succ (rows : Mat) (i k : Nat) : lamR rows i (k + 1) = lamR rows i k ++ [lam rows i k] := by
  unfold lamR; rw [List.range_succ, List.map_append]; rfl
theorem spL_succ (rows : Mat) (k : Nat) : spL rows (k + 1) = spL rows k ++ [Dd rows k] := by
  unfold spL; rw [List.range_succ, List.map_append]; rfl
theorem lamR_len (rows : Mat) (i k : Nat) : (lamR rows i k).length = k := by unfold lamR; rw [List.length_map, List.length_range]
theorem spL_len (rows : Mat) (k : Nat) : (spL rows k).length = k := by unfold spL; rw [List.length_map, List.length_range]
theorem shT_len (rows : Mat) (f : Nat → Addr) (k : Nat) : (shT rows f k).length = k := by unfold shT; rw [List.length_map, List.length_range]
theorem fzs_mapT {α : Type} (g : α → T) (l : List α) : fzs (l.map g) = l.map fun x => fz (g x) := by
  induction l with
  | nil => rfl
  | cons x l ih => show fz (g x) :: fzs (l.map g) = fz (g x) :: l.map fun x => fz (g x); rw [ih]
theorem nvs_mapT {α : Type} (g : α → T) (l : List α) (h : ∀ x ∈ l, nv (g x) = true) : nvs (l.map g) = true := by
  induction l with
  | nil => rfl
  | cons x l ih =>
    show (nv (g x) && nvs (l.map g)) = true
    rw [h x (by simp), ih fun y hy => h y (List.mem_cons_of_mem _ hy)]; rfl
theorem fzs_shT (rows : Mat) (f : Nat → Addr) (m : Nat) : fzs (shT rows f m) = (List.range m).map fun i => rowD (lamR rows i (i + 1)) := by
  unfold shT
  rw [fzs_mapT]
  refine List.map_congr_left fun i _ => ?_
  show PyData.list (fzs ((lamR rows i (i + 1)).map fun x => T.d (.int x))) = _
  rw [fzs_map]
theorem nvs_shT (rows : Mat) (f : Nat → Addr) (m : Nat) : nvs (shT rows f m) = true := nvs_mapT _ _ fun i _ => nvs_map _ _
theorem lam_at {rows : Mat} {i j : Nat} {r s : List Int} (h : rows[i]? = some r) (k : rows[j]? = some s) : lam rows i j = Mu rows j s r := by
  unfold lam
  rw [List.getD_eq_getElem?_getD, List.getD_eq_getElem?_getD, h, k]; rfl
/-- nothing to lend there -/
def NoOwn (q : Option T) : Prop := ∀ r, nvR r → nvR (q :: r)
theorem v_L1_shares_of {D : Ends3} {pq ps p5 : Addr} {f : Nat → Addr} {rows : Mat} {m n b i p : Nat} {ri rp : List Int} {s0 : PyData} {s4 : PyData} {s8 s9 : Option T} (h8 : NoOwn s8) (h9 : NoOwn s9) (hs : Sq m n rows) (m4 : m ≤ 4) (n4 : n ≤ 4) (hd : ∀ a, a < m → 0 < Dd rows a) (hd2 : ∀ a, a < m → Sz 8999 (Dd rows a)) (hz : ∀ r ∈ rows, SzL b r) (hb : b ≤ 60000) (hpi : p ≤ i) (him : i < m) (hri : rows[i]? = some ri) (hrp : rows[p]? = some rp)
    (q : ∀ s8 s9, NoOwn s8 → NoOwn s9 → D.nx [some (.d s0), some (.own pq ((spL rows (i + 1)).map fun x => T.d (.int x))), some (.own ps (shT rows f i)), some (.d (.int (i : Nat))), some (.d s4), some (.own p5 ((lamR rows i p).map fun x => T.d (.int x))), some (.d (.int (0 + (p : Nat)))), some (.d (.int (lam rows i p))), s8, s9]) :
    L1_shares_of D [some (.d s0), some (.own pq ((spL rows (i + 1)).map fun x => T.d (.int x))), some (.own ps (shT rows f i)), some (.d (.int (i : Nat))), some (.d s4), some (.own p5 ((lamR rows i p).map fun x => T.d (.int x))), some (.d (.int (0 + (p : Nat)))), some (.d (.int (dot ri rp))), s8, s9] := by
  have hb2 : 1000 < sizeLine := by decide
  have hl := hs.1
  have li := hs.2 ri (List.mem_of_getElem? hri)
  have lp := hs.2 rp (List.mem_of_getElem? hrp)
  have zi := hz ri (List.mem_of_getElem? hri)
  have zp := hz rp (List.mem_of_getElem? hrp)
  refine ⟨by omega, by omega, fun a r => ∃ s8 s9 c, r = [some (.d s0), some (.own pq ((spL rows (i + 1)).map fun x => T.d (.int x))), some (.own ps (shT rows f i)), some (.d (.int (i : Nat))), some (.d s4), some (.own p5 ((lamR rows i p).map fun x => T.d (.int x))), some (.d (.int (0 + (p : Nat)))), some (.d (.int c)), s8, s9] ∧ c = Mu rows a rp ri ∧ a ≤ p ∧ NoOwn s8 ∧ NoOwn s9, ⟨_, _, _, rfl, by rw [Mu_zero, dot_comm], by omega, h8, h9⟩, fun a x r hx hW => ?_, fun r hW => ?_⟩
  · obtain ⟨s8, s9, c, rfl, rfl, ha, h8, h9⟩ := hW
    obtain ⟨ha1, rfl⟩ := rangeI_get hx
    have ha2 : a < p := by omega
    obtain ⟨ra, hra⟩ : ∃ ra, rows[a]? = some ra := ⟨_, List.getElem?_eq_getElem (by omega)⟩
    have la := hs.2 ra (List.mem_of_getElem? hra)
    have za := hz ra (List.mem_of_getElem? hra)
    -- the share of the row at the place
    obtain ⟨kk, hk, hk2⟩ : ∃ kk, p ≤ kk ∧ getI (fzs (List.map T.d (fzs (shT rows f i)) ++ List.map T.d (fzs [T.d (PyData.list (fzs ((lamR rows i p).map fun x => T.d (.int x))))]))) (0 + (p : Nat) : Int) = some (rowD (lamR rows p kk)) := by
      rw [← List.map_append, fzs_d, fzs_shT, fzs_map]
      by_cases c : p < i
      · refine ⟨p + 1, by omega, getI_at (k := p) (by omega) ?_⟩
        rw [List.getElem?_append_left (by rw [List.length_map, List.length_range]; exact c), List.getElem?_map, List.getElem?_range c]; rfl
      · have e : p = i := by omega
        subst e
        refine ⟨p, Nat.le_refl _, getI_at (k := p) (by omega) ?_⟩
        rw [List.getElem?_append_right (by rw [List.length_map, List.length_range]; omega), List.length_map, List.length_range, Nat.sub_self]; rfl
    have e0 : (0 + (a : Nat) : Int) = (a : Nat) := by omega
    have e1 : (0 + (a : Nat) + 1 : Int) = ((a + 1 : Nat) : Int) := by omega
    have g1 : getI ((lamR rows p kk).map PyData.int) (0 + (a : Nat) : Int) = some (.int (lam rows p a)) := by rw [e0]; exact lamR_get (by omega)
    have g2 : getI ((lamR rows i p).map fun x => T.d (.int x)) (0 + (a : Nat) : Int) = some (.d (.int (lam rows i a))) := by rw [e0]; exact lamO_get (by omega)
    have g3 := spO_get (rows := rows) (k := i + 1) e1 (by omega)
    have g4 := spO_get (rows := rows) (k := i + 1) e0 (by omega)
    have sM : ∀ x y : List Int, x.length = n → SzL b x → SzL b y → Sz (8 * b + 21) (Mu rows a x y) := fun x y hx zx zy => Mu_Sz n4 hs (by omega) (by omega) hz hx zx zy
    have eD := Dd_succ hra
    have eI := lam_at hri hra
    have eP := lam_at hrp hra
    have sy : Mu rows a ra rp = Mu rows a rp ra := Mu_symm (by omega) (by omega)
    have sl := syl a rows ra rp ri (by omega) hra
    refine ⟨⟨nvs_map _ _, nvs_shT _ _ _, nvs_map _ _, (h9 _ ⟨⟩)⟩, sz 1, fun _ => ⟨rfl, ?_, fun _ => ⟨?_, _, hk2, _, g1, rfl, ?_⟩⟩⟩
    · show (fzs (shT rows f i)).length + 1 ≤ sizeLine
      rw [fzs_shT, List.length_map, List.length_range]; omega
    · show nvs (List.map T.d _ ++ List.map T.d _) = true
      rw [nvs_append, nvs_d, nvs_d]; rfl
    · have sA := sM ra ra la za za
      have sB := sM rp ri lp zp zi
      have sC := sM ra ri la za zi
      have sE := sM ra rp la za zp
      have d0 := hd a (by omega)
      refine ⟨rfl, _, g3, mulOk (n := 8 * b + 21) (m := 8 * b + 21) (by rw [eD]; exact sA) sB (by omega), rfl, _, g2, mulOk (n := 8 * b + 21) (m := 8 * b + 21) (by rw [eI]; exact sC) (by rw [eP]; exact sE) (by omega), rfl, _, g4, divOk d0 (hd2 a (by omega)) (by decide), _, _, _, rfl, ?_, by omega, fun _ h => h, fun _ h => h⟩
      show (Dd rows (a + 1) * Mu rows a rp ri - lam rows i a * lam rows p a) / Dd rows a = _
      have : Dd rows (a + 1) * Mu rows a rp ri - lam rows i a * lam rows p a = Dd rows a * Mu rows (a + 1) rp ri := by
        rw [eD, eI, eP, ← sl, sy, Int.mul_comm (Mu rows a ra ri)]
      rw [this, Int.mul_ediv_cancel_left _ (by omega)]
  · obtain ⟨s8, s9, c, rfl, rfl, ha, h8, h9⟩ := hW
    rw [rangeI_len] at ha ⊢
    have e : ((0 + (p : Nat) : Int)).toNat = p := by omega
    rw [e, ← lam_at hri hrp]
    exact q _ _ h8 h9
theorem seqB_at {rb : Bool} {rows : Mat} {k : Nat} {i : Int} {r : List Int} (e : i = (k : Nat)) (h : rows[k]? = some r) : getI (rows.map (seqB rb)) i = some (seqB rb r) := getI_at e (by rw [List.getElem?_map, h]; rfl)
theorem v_L2_shares_of {D : Ends3} {rb : Bool} {pq ps p5 : Addr} {f : Nat → Addr} {rows : Mat} {m n b i : Nat} {ri : List Int} {s6 s7 s8 s9 : Option T} (h8 : NoOwn s8) (h9 : NoOwn s9) (hs : Sq m n rows) (m4 : m ≤ 4) (n4 : n ≤ 4) (hd : ∀ a, a < m → 0 < Dd rows a) (hd2 : ∀ a, a < m → Sz 8999 (Dd rows a)) (hz : ∀ r ∈ rows, SzL b r) (hb : b ≤ 60000) (him : i < m) (hri : rows[i]? = some ri)
    (q : ∀ s6 s7 s8 s9, NoOwn s8 → NoOwn s9 → D.nx [some (.d (matB rb rows)), some (.own pq ((spL rows (i + 1)).map fun x => T.d (.int x))), some (.own ps (shT rows f i)), some (.d (.int (i : Nat))), some (.d (seqB rb ri)), some (.own p5 ((lamR rows i (i + 1)).map fun x => T.d (.int x))), s6, s7, s8, s9]) :
    L2_shares_of D [some (.d (matB rb rows)), some (.own pq ((spL rows (i + 1)).map fun x => T.d (.int x))), some (.own ps (shT rows f i)), some (.d (.int (i : Nat))), some (.d (seqB rb ri)), some (.own p5 []), s6, s7, s8, s9] := by
  have hb2 : 1000 < sizeLine := by decide
  have hl := hs.1
  have li := hs.2 ri (List.mem_of_getElem? hri)
  have zi := hz ri (List.mem_of_getElem? hri)
  cases rb
  · refine ⟨by omega, by omega, fun j r => ∃ L s6 s7 s8 s9, r = [some (.d (matB false rows)), some (.own pq ((spL rows (i + 1)).map fun x => T.d (.int x))), some (.own ps (shT rows f i)), some (.d (.int (i : Nat))), some (.d (seqB false ri)), some (.own p5 L), s6, s7, s8, s9] ∧ L = ((lamR rows i j).map fun x => T.d (.int x)) ∧ j ≤ i + 1 ∧ NoOwn s8 ∧ NoOwn s9, ⟨_, _, _, _, _, rfl, rfl, by omega, h8, h9⟩, fun j x r hx hW => ?_, fun r hW => ?_⟩
    · obtain ⟨L, s6, s7, s8, s9, rfl, rfl, hj, h8, h9⟩ := hW
      obtain ⟨hj1, rfl⟩ := rangeI_get hx
      have hj2 : j ≤ i := by omega
      obtain ⟨rj, hrj⟩ : ∃ rj, rows[j]? = some rj := ⟨_, List.getElem?_eq_getElem (by omega)⟩
      have lj := hs.2 rj (List.mem_of_getElem? hrj)
      have zj := hz rj (List.mem_of_getElem? hrj)
      refine ⟨_, seqB_at (rb := false) (show (0 + (j : Nat) : Int) = (j : Nat) by omega) hrj, nd0, false, false, ri, rj, b, b, rfl, fun a ha => zi.mem ha, fun a ha => zj.mem ha, by omega, by omega, by omega, v_L1_shares_of h8 h9 hs m4 n4 hd hd2 hz hb hj2 him hri hrj fun s8 s9 h8 h9 => ⟨by rw [List.length_map, lamR_len]; omega, _, _, _, _, _, rfl, ?_, by omega, h8, h9⟩⟩
      rw [lamR_succ, List.map_append]; rfl
    · obtain ⟨L, s6, s7, s8, s9, rfl, rfl, hj, h8, h9⟩ := hW
      rw [rangeI_len] at hj ⊢
      have e : ((i : Int) + 1).toNat = i + 1 := by omega
      rw [e]
      exact q _ _ _ _ h8 h9
  · refine ⟨by omega, by omega, fun j r => ∃ L s6 s7 s8 s9, r = [some (.d (matB true rows)), some (.own pq ((spL rows (i + 1)).map fun x => T.d (.int x))), some (.own ps (shT rows f i)), some (.d (.int (i : Nat))), some (.d (seqB true ri)), some (.own p5 L), s6, s7, s8, s9] ∧ L = ((lamR rows i j).map fun x => T.d (.int x)) ∧ j ≤ i + 1 ∧ NoOwn s8 ∧ NoOwn s9, ⟨_, _, _, _, _, rfl, rfl, by omega, h8, h9⟩, fun j x r hx hW => ?_, fun r hW => ?_⟩
    · obtain ⟨L, s6, s7, s8, s9, rfl, rfl, hj, h8, h9⟩ := hW
      obtain ⟨hj1, rfl⟩ := rangeI_get hx
      have hj2 : j ≤ i := by omega
      obtain ⟨rj, hrj⟩ : ∃ rj, rows[j]? = some rj := ⟨_, List.getElem?_eq_getElem (by omega)⟩
      have lj := hs.2 rj (List.mem_of_getElem? hrj)
      have zj := hz rj (List.mem_of_getElem? hrj)
      refine ⟨_, seqB_at (rb := true) (show (0 + (j : Nat) : Int) = (j : Nat) by omega) hrj, nd0, true, true, ri, rj, b, b, rfl, fun a ha => zi.mem ha, fun a ha => zj.mem ha, by omega, by omega, by omega, v_L1_shares_of h8 h9 hs m4 n4 hd hd2 hz hb hj2 him hri hrj fun s8 s9 h8 h9 => ⟨by rw [List.length_map, lamR_len]; omega, _, _, _, _, _, rfl, ?_, by omega, h8, h9⟩⟩
      rw [lamR_succ, List.map_append]; rfl
    · obtain ⟨L, s6, s7, s8, s9, rfl, rfl, hj, h8, h9⟩ := hW
      rw [rangeI_len] at hj ⊢
      have e : ((i : Int) + 1).toNat = i + 1 := by omega
      rw [e]
      exact q _ _ _ _ h8 h9
theorem lam_self {rows : Mat} {i : Nat} {r : List Int} (h : rows[i]? = some r) : lam rows i i = Dd rows (i + 1) := by rw [lam_at h h, Dd_succ h]
theorem shT_succ (rows : Mat) (f : Nat → Addr) (i : Nat) (p : Addr) : shT rows f i ++ [T.own p ((lamR rows i (i + 1)).map fun x => T.d (.int x))] = shT rows (fun k => if k = i then p else f k) (i + 1) := by
  unfold shT
  rw [List.range_succ, List.map_append]
  congr 1
  · refine List.map_congr_left fun k hk => ?_
    have : k < i := List.mem_range.mp hk
    show _ = T.own (if k = i then p else f k) _
    rw [if_neg (by omega)]
  · show _ = [T.own (if i = i then p else f i) _]
    rw [if_pos rfl]
theorem v_shares_of (ts Q E) (h : sp_shares_of ts Q E) : body_shares_of { nx := fun r => finOk ts r ∧ Q (.d .none) (finF ts r), rt := fun x r => finOk ts r ∧ Q x (finF ts r) } (start3 N_shares_of ts) := by
  obtain ⟨rb, rows, m, n, b, rfl, hs, m4, n4, hd, hd2, hz, hb, q⟩ := h
  have hb2 : 1000 < sizeLine := by decide
  have hl := hs.1
  cases rb
  · refine ⟨sz 1, fun pq => ⟨sz 0, fun ps => ⟨rows.map (seqB false), rfl, fun i r => ∃ A S s3 s4 s6 s7 s8 s9, r = [some (.d (matB false rows)), some (.own pq A), some (.own ps S), s3, s4, none, s6, s7, s8, s9] ∧ A = (spL rows (i + 1)).map (fun x => T.d (.int x)) ∧ (∃ f, S = shT rows f i) ∧ i ≤ m ∧ NoOwn s8 ∧ NoOwn s9, ⟨_, _, _, _, _, _, _, _, rfl, rfl, ⟨fun _ => 0, rfl⟩, Nat.zero_le _, fun _ h => h, fun _ h => h⟩, fun i x r hx hW => ?_, fun r hW => ?_⟩⟩⟩
    · obtain ⟨A, S, s3, s4, s6, s7, s8, s9, rfl, rfl, ⟨f, rfl⟩, hi, h8, h9⟩ := hW
      obtain ⟨ri, hri, rfl⟩ := enum_get hx
      have him : i < m := by have := (List.getElem?_eq_some_iff.mp hri).1; omega
      refine ⟨rfl, sz 0, fun p5 => v_L2_shares_of (rb := false) h8 h9 hs m4 n4 hd hd2 hz hb him hri fun s6 s7 s8 s9 h8 h9 => ⟨rfl, _, lamO_get (Nat.lt_succ_self i), by rw [List.length_map, spL_len]; omega, by rw [shT_len]; omega, _, _, _, _, _, _, _, _, rfl, ?_, ⟨_, shT_succ rows f i p5⟩, by omega, h8, h9⟩⟩
      rw [spL_succ rows (i + 1), List.map_append, lam_self hri]; rfl
    · obtain ⟨A, S, s3, s4, s6, s7, s8, s9, rfl, rfl, ⟨f, rfl⟩, hi, h8, h9⟩ := hW
      rw [enumD_len, List.length_map, hl]
      exact ⟨sz 2, ⟨⟩, q ps pq f⟩
  · refine ⟨sz 1, fun pq => ⟨sz 0, fun ps => ⟨rows.map (seqB true), rfl, fun i r => ∃ A S s3 s4 s6 s7 s8 s9, r = [some (.d (matB true rows)), some (.own pq A), some (.own ps S), s3, s4, none, s6, s7, s8, s9] ∧ A = (spL rows (i + 1)).map (fun x => T.d (.int x)) ∧ (∃ f, S = shT rows f i) ∧ i ≤ m ∧ NoOwn s8 ∧ NoOwn s9, ⟨_, _, _, _, _, _, _, _, rfl, rfl, ⟨fun _ => 0, rfl⟩, Nat.zero_le _, fun _ h => h, fun _ h => h⟩, fun i x r hx hW => ?_, fun r hW => ?_⟩⟩⟩
    · obtain ⟨A, S, s3, s4, s6, s7, s8, s9, rfl, rfl, ⟨f, rfl⟩, hi, h8, h9⟩ := hW
      obtain ⟨ri, hri, rfl⟩ := enum_get hx
      have him : i < m := by have := (List.getElem?_eq_some_iff.mp hri).1; omega
      refine ⟨rfl, sz 0, fun p5 => v_L2_shares_of (rb := true) h8 h9 hs m4 n4 hd hd2 hz hb him hri fun s6 s7 s8 s9 h8 h9 => ⟨rfl, _, lamO_get (Nat.lt_succ_self i), by rw [List.length_map, spL_len]; omega, by rw [shT_len]; omega, _, _, _, _, _, _, _, _, rfl, ?_, ⟨_, shT_succ rows f i p5⟩, by omega, h8, h9⟩⟩
      rw [spL_succ rows (i + 1), List.map_append, lam_self hri]; rfl
    · obtain ⟨A, S, s3, s4, s6, s7, s8, s9, rfl, rfl, ⟨f, rfl⟩, hi, h8, h9⟩ := hW
      rw [enumD_len, List.length_map, hl]
      exact ⟨sz 2, ⟨⟩, q ps pq f⟩
end L3
set_option pp.maxSteps 600
namespace L3
open PySem PySem.Spec PyProof.Rows L2
local macro_rules | `(tactic| wtm_at "sh") => `(tactic| conv => whnf)
theorem lam_Sz {m n b i j : Nat} {rows : Mat} (m4 : m ≤ 4) (n4 : n ≤ 4) (hs : Sq m n rows) (hz : ∀ r ∈ rows, SzL b r) (hi : i < m) (hj : j < m) : Sz (8 * b + 21) (lam rows i j) := by
  have hl := hs.1
  obtain ⟨r, hr⟩ : ∃ r, rows[i]? = some r := ⟨_, List.getElem?_eq_getElem (by omega)⟩
  obtain ⟨s, hs2⟩ : ∃ r, rows[j]? = some r := ⟨_, List.getElem?_eq_getElem (by omega)⟩
  rw [lam_at hr hs2]
  exact Mu_Sz n4 hs (by omega) (by omega) hz (hs.2 s (List.mem_of_getElem? hs2)) (hz s (List.mem_of_getElem? hs2)) (hz r (List.mem_of_getElem? hr))
theorem Dd_Sz {m n b a : Nat} {rows : Mat} (m4 : m ≤ 4) (n4 : n ≤ 4) (hs : Sq m n rows) (hz : ∀ r ∈ rows, SzL b r) (ha : a ≤ m) : Sz (8 * b + 21) (Dd rows a) := by
  match a with
  | 0 => rw [Dd_zero]; exact (show Sz 1 1 by unfold Sz; decide).mono (by omega)
  | a + 1 =>
    have hl := hs.1
    obtain ⟨r, hr⟩ : ∃ r, rows[a]? = some r := ⟨_, List.getElem?_eq_getElem (by omega)⟩
    rw [← lam_self hr]
    exact lam_Sz m4 n4 hs hz (by omega) (by omega)
/-- what shares_of asks of rows -/
def ShOk (m n b : Nat) (rows : Mat) : Prop := Sq m n rows ∧ m ≤ 4 ∧ n ≤ 4 ∧ (∀ a, a < m → 0 < Dd rows a) ∧ (∀ a, a < m → Sz 8999 (Dd rows a)) ∧ (∀ r ∈ rows, SzL b r) ∧ b ≤ 60000
/-- whether the right part of the row behind the k-th one is long enough -/
def standB (rows : Mat) (k : Nat) : Bool := decide (4 * (Dd rows (k + 2) * Dd rows k + lam rows (k + 1) k * lam rows (k + 1) k) ≥ 3 * Dd rows (k + 1) * Dd rows (k + 1))
theorem mu_take {rows : Mat} {k a : Nat} {x y z : List Int} (h : a ≤ k) : Mu (rows.set k z) a x y = Mu rows a x y := by
  unfold Mu
  rw [List.take_set, List.set_eq_of_length_le (by rw [List.length_take]; omega)]
/-- rows that tell the same lattice -/
structure Same (n : Nat) (rows0 rows : Mat) : Prop where
  sq : Sq n n rows
  dt : (detN n rows).natAbs = (detN n rows0).natAbs
  sp : ∀ r ∈ rows, Span n rows0 r
  ps : ∀ r ∈ rows0, Span n rows r
theorem Same.refl {n : Nat} {rows : Mat} (h : Sq n n rows) : Same n rows rows := ⟨h, rfl, fun r hr => .of_mem h hr, fun r hr => .of_mem h hr⟩
theorem Same.trans {n : Nat} {rows0 rows1 rows2 : Mat} (h0 : Sq n n rows0) (h : Same n rows0 rows1) (k : Same n rows1 rows2) : Same n rows0 rows2 :=
  ⟨k.sq, k.dt.trans h.dt, fun r hr => Span.trans h0 h.sq h.sp (k.sp r hr), fun r hr => Span.trans k.sq h.sq k.ps (h.ps r hr)⟩
theorem Same.add {n a k : Nat} {rows : Mat} {U V : List Int} (m : Int) (h4 : n ≤ 4) (h : Sq n n rows) (hk : a ≠ k) (hU : rows[a]? = some U) (hV : rows[k]? = some V) : Same n rows (rows.set a (vAdd U (-m) V)) := by
  have lU := h.2 U (List.mem_of_getElem? hU)
  have lV := h.2 V (List.mem_of_getElem? hV)
  have al := (List.getElem?_eq_some_iff.mp hU).1
  have lv : (vAdd U (-m) V).length = n := vAdd_len lU lV
  have sq' : Sq n n (rows.set a (vAdd U (-m) V)) := h.set lv
  refine ⟨sq', by rw [det_add (-m) h4 h hk hU hV], fun r hr => ?_, fun s hs => ?_⟩
  · rcases List.mem_or_eq_of_mem_set hr with hr | rfl
    · exact .of_mem h hr
    · exact (Span.of_mem h (List.mem_of_getElem? hU)).vadd h _ (.of_mem h (List.mem_of_getElem? hV))
  · obtain ⟨i, hi⟩ := List.getElem?_of_mem hs
    by_cases h1 : i = a
    · subst h1
      rw [hU] at hi
      cases hi
      have mV : V ∈ rows.set i (vAdd U (-m) V) := List.mem_of_getElem? (i := k) (by rw [List.getElem?_set_ne hk]; exact hV)
      have mW : vAdd U (-m) V ∈ rows.set i (vAdd U (-m) V) := List.mem_of_getElem? (i := i) (by rw [List.getElem?_set_self al])
      have z := (Span.of_mem sq' mW).vadd sq' m (.of_mem sq' mV)
      rw [vAdd_back (by omega)] at z
      exact z
    · exact .of_mem sq' (List.mem_of_getElem? (i := i) (by rw [List.getElem?_set_ne (Ne.symm h1)]; exact hi))
theorem Same.swap {n i j : Nat} {rows : Mat} {U V : List Int} (h4 : n ≤ 4) (h : Sq n n rows) (hij : i ≠ j) (hU : rows[i]? = some U) (hV : rows[j]? = some V) : Same n rows ((rows.set i V).set j U) := by
  have lU := h.2 U (List.mem_of_getElem? hU)
  have lV := h.2 V (List.mem_of_getElem? hV)
  have il := (List.getElem?_eq_some_iff.mp hU).1
  have jl := (List.getElem?_eq_some_iff.mp hV).1
  have sq' : Sq n n ((rows.set i V).set j U) := (h.set lV).set lU
  refine ⟨sq', by rw [det_swap h4 h hij hU hV, Int.natAbs_neg], fun r hr => ?_, fun s hs => ?_⟩
  · rcases mem_set2 hr with hr | rfl | rfl
    · exact .of_mem h hr
    · exact .of_mem h (List.mem_of_getElem? hV)
    · exact .of_mem h (List.mem_of_getElem? hU)
  · obtain ⟨a, ha⟩ := List.getElem?_of_mem hs
    have mV : V ∈ (rows.set i V).set j U := List.mem_of_getElem? (i := i) (by rw [List.getElem?_set_ne (Ne.symm hij), List.getElem?_set_self il])
    have mU : U ∈ (rows.set i V).set j U := List.mem_of_getElem? (i := j) (by rw [List.getElem?_set_self (by rw [List.length_set]; exact jl)])
    by_cases h1 : a = i
    · subst h1; rw [hU] at ha; cases ha; exact .of_mem sq' mU
    · by_cases h2 : a = j
      · subst h2; rw [hV] at ha; cases ha; exact .of_mem sq' mV
      · exact .of_mem sq' (List.mem_of_getElem? (i := a) (by rw [List.getElem?_set_ne (Ne.symm h2), List.getElem?_set_ne (Ne.symm h1)]; exact ha))
/-- the shares of a row that another one ahead is taken off from -/
theorem lam_cut {n k p j : Nat} {rows : Mat} {U V : List Int} {m : Int} (h4 : n ≤ 4) (h : Sq n n rows) (hp : p < k) (hj : j < k) (hU : rows[k]? = some U) (hV : rows[p]? = some V) : lam (rows.set k (vAdd U (-m) V)) k j = lam rows k j - m * lam rows p j := by
  have hl := h.1
  have kl := (List.getElem?_eq_some_iff.mp hU).1
  obtain ⟨R, hR⟩ : ∃ R, rows[j]? = some R := ⟨_, List.getElem?_eq_getElem (by omega)⟩
  have e1 : (rows.set k (vAdd U (-m) V))[k]? = some (vAdd U (-m) V) := by rw [List.getElem?_set_self kl]
  have e2 : (rows.set k (vAdd U (-m) V))[j]? = some R := by rw [List.getElem?_set_ne (by omega)]; exact hR
  rw [lam_at e1 e2, lam_at hU hR, lam_at hV hR, mu_take (by omega), Mu_linR (by omega) (by omega) (by rw [h.2 U (List.mem_of_getElem? hU), h.2 V (List.mem_of_getElem? hV)])]
  rw [Int.neg_mul]; omega
theorem lam_zero {n i j : Nat} {rows : Mat} (h4 : n ≤ 4) (h : Sq n n rows) (hij : i < j) (hj : j < n) : lam rows i j = 0 := by
  have hl := h.1
  obtain ⟨R, hR⟩ : ∃ R, rows[i]? = some R := ⟨_, List.getElem?_eq_getElem (by omega)⟩
  obtain ⟨S, hS⟩ : ∃ S, rows[j]? = some S := ⟨_, List.getElem?_eq_getElem (by omega)⟩
  rw [lam_at hR hS]
  exact Mu_altR (by omega) (by omega) hij hR
theorem half_cut {l d : Int} (hd : 0 < d) : 2 * (l - (2 * l + d) / (2 * d) * d).natAbs ≤ d.natAbs := by
  have h1 := Int.mul_ediv_add_emod (2 * l + d) (2 * d)
  have h2 := Int.emod_nonneg (2 * l + d) (show 2 * d ≠ 0 by omega)
  have h3 := Int.emod_lt_of_pos (2 * l + d) (show 0 < 2 * d by omega)
  have e : 2 * d * ((2 * l + d) / (2 * d)) = 2 * ((2 * l + d) / (2 * d) * d) := by grind
  omega
theorem det_last {b c : Nat} : ∀ (n : Nat) (l : Mat) (z : List Int), n ≤ 3 → l.length = n → (∀ r ∈ l, r.length = n + 1) → (∀ r ∈ l, SzL b r) → z.length = n + 1 → SzL c z → (detN (n + 1) (l ++ [z])).natAbs ≤ 2 ^ (n * (b + 2)) * 2 ^ c
  | 0, [], z, _, _, _, _, hl, hz => by
    have : detN (0 + 1) ([] ++ [z]) = z.getD 0 0 := by
      show sumR 1 _ = _
      simp [sumR, sg, detN]
    rw [this]
    have h2 := hz 0
    unfold Sz at h2
    rw [Nat.zero_mul, Nat.pow_zero, Nat.one_mul]
    omega
  | n + 1, r :: l, z, hn, hl, hw, hz, hl2, hz2 => by
    show (sumR (n + 2) fun k => r.getD k 0 * sg k * detN (n + 1) (minor k (l ++ [z]))).natAbs ≤ _
    have := sumR_sz (m := n + 2) (X := 2 ^ b * (2 ^ (n * (b + 2)) * 2 ^ c)) (f := fun k => r.getD k 0 * sg k * detN (n + 1) (minor k (l ++ [z]))) fun k hk => by
      have e1 := hz r (by simp) k
      have em : minor k (l ++ [z]) = minor k l ++ [z.eraseIdx k] := by unfold minor; rw [List.map_append]; rfl
      have e2 := det_last n (minor k l) (z.eraseIdx k) (by omega) (by unfold minor; rw [List.length_map]; simpa using hl) (fun x hx => by
        obtain ⟨y, hy, rfl⟩ := List.mem_map.mp hx
        rw [List.length_eraseIdx, hw y (List.mem_cons_of_mem _ hy), if_pos hk]; rfl) (fun x hx => by
        obtain ⟨y, hy, rfl⟩ := List.mem_map.mp hx
        exact (hz y (List.mem_cons_of_mem _ hy)).erase) (by rw [List.length_eraseIdx, hl2, if_pos hk]; rfl) hz2.erase
      rw [em, Int.natAbs_mul, Int.natAbs_mul, sg_abs, Nat.mul_one]
      exact Nat.mul_le_mul (Nat.le_of_lt e1) e2
    refine Nat.le_trans this ?_
    have e3 : 2 ^ ((n + 1) * (b + 2)) * 2 ^ c = 4 * (2 ^ b * (2 ^ (n * (b + 2)) * 2 ^ c)) := by
      rw [Nat.add_mul, Nat.one_mul, Nat.pow_add, Nat.pow_add]
      grind
    rw [e3]
    exact Nat.mul_le_mul_right _ (by omega)
  | 0, _ :: _, _, _, h, _, _, _, _ => by simp at h
  | _ + 1, [], _, _, h, _, _, _, _ => by simp at h
theorem Mu_Sz2 {m n b c a : Nat} {rows : Mat} {x y : List Int} (h4 : n ≤ 4) (h : Sq m n rows) (ha : a ≤ 3) (ham : a ≤ m) (hz : ∀ r ∈ rows.take a, SzL b r) (hx : x.length = n) (hy : y.length = n) (zx : SzL b x) (zy : SzL c y) : Sz (7 * b + c + 19) (Mu rows a x y) := by
  have hl := h.1
  have l1 := take_len (rows := rows) (a := a) (by omega)
  have z2 : ∀ v ∈ rows.take a ++ [x], SzL b v ∧ v.length = n := fun v hv => by
    rcases List.mem_append.mp hv with q | q
    · exact ⟨hz v q, h.2 v (List.mem_of_mem_take q)⟩
    · rw [List.mem_singleton.mp q]; exact ⟨zx, hx⟩
  have eg : gm (rows.take a ++ [y]) (rows.take a ++ [x]) = gm (rows.take a) (rows.take a ++ [x]) ++ [pr y (rows.take a ++ [x])] := by unfold gm; rw [List.map_append]; rfl
  have zp : SzL (b + c + 3) (pr y (rows.take a ++ [x])) := SzL.of fun v hv => by
    unfold pr at hv
    obtain ⟨w, hw, rfl⟩ := List.mem_map.mp hv
    have q := dot_sz (n := c) (k := b) y w (fun u hu => zy.mem hu) fun u hu => (z2 w hw).1.mem hu
    rw [hy] at q
    have h2 : n * 2 ^ (c + b) ≤ 4 * 2 ^ (c + b) := Nat.mul_le_mul_right _ h4
    unfold Sz
    rw [show b + c + 3 = (c + b) + 3 by omega, Nat.pow_add]
    have : 0 < 2 ^ (c + b) := Nat.pow_pos (by decide)
    omega
  have := det_last (b := 2 * b + 3) (c := b + c + 3) a (gm (rows.take a) (rows.take a ++ [x])) (pr y (rows.take a ++ [x])) ha (by unfold gm; rw [List.length_map]; exact l1) (fun r hr => by
    unfold gm at hr
    obtain ⟨v, hv, rfl⟩ := List.mem_map.mp hr
    rw [pr_len]; exact one_len l1) (fun r hr => by
    unfold gm at hr
    obtain ⟨v, hv, rfl⟩ := List.mem_map.mp hr
    exact pr_Sz h4 (h.2 v (List.mem_of_mem_take hv)) (hz v hv) fun w hw => (z2 w hw).1) (by rw [pr_len]; exact one_len l1) zp
  rw [Mu_symm ha (by omega)]
  unfold Mu
  rw [eg]
  unfold Sz
  refine Nat.lt_of_le_of_lt this ?_
  rw [← Nat.pow_add]
  have e : a * (2 * b + 3 + 2) ≤ 3 * (2 * b + 3 + 2) := Nat.mul_le_mul_right _ ha
  exact Nat.pow_lt_pow_right (by decide) (by omega)
/-- rows with the k-th one cut down, so far as the place j -/
structure CutAt (n B k t : Nat) (rows rows' : Mat) : Prop where
  same : Same n rows rows'
  keep : ∀ i, i ≠ k → rows'[i]? = rows[i]?
  dd : ∀ a, a ≤ n → Dd rows' a = Dd rows a
  sh : ∀ j, j < k → k ≤ j + t → 2 * (lam rows' k j).natAbs ≤ (Dd rows (j + 1)).natAbs
  sz : ∀ r, rows'[k]? = some r → SzL (B + t * (9 * B + 26)) r
theorem CutAt.step {n B k t p : Nat} {rows rows' : Mat} {U V : List Int} (h4 : n ≤ 4) (hs : Sq n n rows) (hk : k < n) (hd : ∀ a, a ≤ n → 0 < Dd rows a) (hz : ∀ r ∈ rows, SzL B r) (h : CutAt n B k t rows rows') (hp : p + t + 1 = k) (hU : rows'[k]? = some U) (hV : rows'[p]? = some V) :
    Sz (7 * B + (B + t * (9 * B + 26)) + 22) ((2 * lam rows' k p + Dd rows (p + 1)) / (2 * Dd rows (p + 1))) ∧ SzL B V ∧ CutAt n B k (t + 1) rows (rows'.set k (vAdd U (-((2 * lam rows' k p + Dd rows (p + 1)) / (2 * Dd rows (p + 1)))) V)) := by
  have sq' := h.same.sq
  have hl' := sq'.1
  have lU := sq'.2 U (List.mem_of_getElem? hU)
  have lV := sq'.2 V (List.mem_of_getElem? hV)
  have zU := h.sz U hU
  have hV0 : rows[p]? = some V := by rw [← h.keep p (by omega)]; exact hV
  have zV := hz V (List.mem_of_getElem? hV0)
  have d0 := hd (p + 1) (by omega)
  have zl : Sz (7 * B + (B + t * (9 * B + 26)) + 19) (lam rows' k p) := by
    rw [lam_at hU hV]
    refine Mu_Sz2 h4 sq' (by omega) (by omega) (fun r hr => ?_) lV lU zV zU
    obtain ⟨i, hi⟩ := List.getElem?_of_mem hr
    have hip : i < p := by have := (List.getElem?_eq_some_iff.mp hi).1; rw [List.length_take] at this; omega
    rw [List.getElem?_take, if_pos hip, h.keep i (by omega)] at hi
    exact hz r (List.mem_of_getElem? hi)
  have zd : Sz (8 * B + 21) (Dd rows (p + 1)) := Dd_Sz (by omega) h4 hs hz (by omega)
  have zm : Sz (7 * B + (B + t * (9 * B + 26)) + 22) ((2 * lam rows' k p + Dd rows (p + 1)) / (2 * Dd rows (p + 1))) := by
    refine Sz.le (j := 2 * lam rows' k p + Dd rows (p + 1)) ?_ (by rw [← Int.fdiv_eq_ediv_of_nonneg _ (by omega)]; exact fdiv_le)
    have s1 : Sz (2 + (7 * B + (B + t * (9 * B + 26)) + 19)) (2 * lam rows' k p) := (show Sz 2 2 by unfold Sz; decide).mul zl
    exact ((s1.mono (m := 7 * B + (B + t * (9 * B + 26)) + 21) (by omega)).add (zd.mono (by omega))).mono (by omega)
  refine ⟨zm, zV, ?_⟩
  have sa : Same n rows' _ := Same.add ((2 * lam rows' k p + Dd rows (p + 1)) / (2 * Dd rows (p + 1))) h4 sq' (show k ≠ p by omega) hU hV
  have lc : ∀ j, j < k → lam (rows'.set k (vAdd U (-((2 * lam rows' k p + Dd rows (p + 1)) / (2 * Dd rows (p + 1)))) V)) k j = lam rows' k j - (2 * lam rows' k p + Dd rows (p + 1)) / (2 * Dd rows (p + 1)) * lam rows' p j := fun j hj => lam_cut h4 sq' (by omega) hj hU hV
  refine ⟨h.same.trans hs sa, fun i hi => by rw [List.getElem?_set_ne (by omega)]; exact h.keep i hi, fun a ha => by rw [Dd_add h4 sq' (by omega) hU hV ha]; exact h.dd a ha, fun j hj hjt => ?_, fun r hr => ?_⟩
  · rw [lc j hj]
    by_cases e : j = p
    · subst e
      rw [lam_self hV, h.dd _ (by omega)]
      exact half_cut d0
    · rw [lam_zero h4 sq' (show p < j by omega) (by omega), Int.mul_zero, Int.sub_zero]
      exact h.sh j hj (by omega)
  · rw [List.getElem?_set_self (by omega)] at hr
    cases hr
    intro c
    rw [vAdd_getD (by omega)]
    have s1 := zm.neg.mul (zV c)
    exact (((zU c).mono (show B + t * (9 * B + 26) ≤ 7 * B + (B + t * (9 * B + 26)) + 22 + B by omega)).add s1).mono (by rw [Nat.add_mul]; omega)
theorem lfts_mapT {α : Type} (g : α → T) (l : List α) (h : ∀ x ∈ l, lft (g x) = true) : lfts (l.map g) = true := by
  induction l with
  | nil => rfl
  | cons x l ih =>
    show (lft (g x) && lfts (l.map g)) = true
    rw [h x (by simp), ih fun y hy => h y (List.mem_cons_of_mem _ hy)]; rfl
theorem lft_ints (l : List Int) : lfts (l.map fun x => T.d (.int x)) = true := lfts_mapT _ _ fun _ _ => rfl
theorem lft_sh (ps pq : Addr) (rows : Mat) (f : Nat → Addr) (m k : Nat) : lft (.tp [.own ps (shT rows f m), .own pq ((spL rows k).map fun x => T.d (.int x))]) = true := by
  show (lfts (shT rows f m) && (lfts ((spL rows k).map fun x => T.d (.int x)) && true)) = true
  rw [lft_ints]
  unfold shT
  rw [lfts_mapT (fun i => T.own (f i) ((lamR rows i (i + 1)).map fun x => T.d (.int x))) _ fun i _ => lft_ints _]; rfl
end L3
set_option pp.maxSteps 600
namespace L3
open PySem PySem.Spec PyProof.Rows L2
local macro_rules | `(tactic| wtm_at "sh") => `(tactic| conv => whnf)
theorem take_congr {rows rows' : Mat} {a : Nat} (h : ∀ i, i < a → rows'[i]? = rows[i]?) : rows'.take a = rows.take a := by
  refine List.ext_getElem? fun i => ?_
  rw [List.getElem?_take, List.getElem?_take]
  split
  · rename_i hi; exact h i hi
  · rfl
theorem getD_congr {rows rows' : Mat} {i : Nat} (h : rows'[i]? = rows[i]?) : rows'.getD i [] = rows.getD i [] := by
  rw [List.getD_eq_getElem?_getD, List.getD_eq_getElem?_getD, h]
theorem lam_congr {rows rows' : Mat} {a i j : Nat} (h : ∀ i, i < a → rows'[i]? = rows[i]?) (hi : i < a) (hj : j < a) : lam rows' i j = lam rows i j := by
  unfold lam Mu
  rw [take_congr fun k hk => h k (by omega), getD_congr (h i hi), getD_congr (h j hj)]
/-- the spans no greater than powers -/
def DdB (n e : Nat) (rows : Mat) : Prop := ∀ a, a ≤ n → Dd rows a ≤ 2 ^ (a * e)
theorem DdB.of {m n b : Nat} {rows : Mat} (m4 : m ≤ 4) (n4 : n ≤ 4) (hs : Sq m n rows) (hz : ∀ r ∈ rows, SzL b r) : DdB m (2 * b + 5) rows := fun a ha => by
  have l1 := take_len (rows := rows) (a := a) (by rw [hs.1]; exact ha)
  have := det_sz (2 * b + 3) a (gm (rows.take a) (rows.take a)) (by omega) (gm_sq l1 l1) fun r hr => by
    unfold gm at hr
    obtain ⟨v, hv, rfl⟩ := List.mem_map.mp hr
    exact pr_Sz n4 (hs.2 v (List.mem_of_mem_take hv)) (hz v (List.mem_of_mem_take hv)) fun w hw => hz w (List.mem_of_mem_take hw)
  unfold Dd
  rw [show 2 * b + 3 + 2 = 2 * b + 5 by omega] at this
  have e : ((2 ^ (a * (2 * b + 5)) : Nat) : Int) = (2 : Int) ^ (a * (2 * b + 5)) := by simp
  omega
/-- the shares of a row are at most a half -/
def ShB (rows : Mat) (k : Nat) : Prop := ∀ j, j < k → 2 * (lam rows k j).natAbs ≤ (Dd rows (j + 1)).natAbs
theorem sq_nonneg (a : Int) : 0 ≤ a * a := by
  rcases Int.le_total 0 a with h | h
  · exact Int.mul_nonneg h h
  · exact Int.mul_nonneg_of_nonpos_of_nonpos h h
theorem mu_pos' {n a : Nat} {rows : Mat} {r : List Int} (h4 : n ≤ 4) (hs : Sq n n rows) (hd : ∀ a, a ≤ n → 0 < Dd rows a) (ha : a < n) (hr : r.length = n) : 0 ≤ Mu rows a r r := (mu_pos hs a (by omega) (by omega) (fun b hb => hd (b + 1) (by omega)) r hr).1
theorem dot_ge : ∀ (x : List Int) (a : Int), a ∈ x → a * a ≤ dot x x
  | b :: x, a, h => by
    have e : dot (b :: x) (b :: x) = b * b + dot x x := rfl
    have h1 := sq_nonneg b
    have h2 := (dot_self x).1
    rcases List.mem_cons.mp h with rfl | h
    · omega
    · have := dot_ge x a h; omega
/-- how the led rows stand at a place -/
structure LInv (n e : Nat) (rows0 rows : Mat) (at_ : Nat) : Prop where
  same : Same n rows0 rows
  dd : DdB n e rows
  sz : ∀ r ∈ rows, SzL (4 * e) r
  sh : ∀ i, i < at_ → ShB rows i
  lo : ∀ k, k + 1 < at_ → standB rows k = true
def pot (n : Nat) (rows : Mat) : Int := sumR n fun a => Dd rows a
theorem LInv.on {n e k : Nat} {rows0 rows : Mat} (h : LInv n e rows0 rows k) (sh : ShB rows k) (hs : ∀ j, j + 1 = k → standB rows j = true) : LInv n e rows0 rows (k + 1) :=
  ⟨h.same, h.dd, h.sz, fun i hi => by
    by_cases c : i = k
    · subst c; exact sh
    · exact h.sh i (by omega), fun j hj => by
    by_cases c : j + 1 = k
    · exact hs j c
    · exact h.lo j (by omega)⟩
theorem pot_lt {n k : Nat} {rows rows' : Mat} (h : ∀ a, a < n → a ≠ k → Dd rows' a = Dd rows a) (hk : k < n) (hlt : Dd rows' k < Dd rows k) : pot n rows' < pot n rows := by
  unfold pot
  have : ∀ m, m ≤ n → (k < m → sumR m (fun a => Dd rows' a) < sumR m fun a => Dd rows a) ∧ (m ≤ k → sumR m (fun a => Dd rows' a) = sumR m fun a => Dd rows a) := by
    intro m
    induction m with
    | zero => intro _; exact ⟨fun h => by omega, fun _ => rfl⟩
    | succ m ih =>
      intro hm
      obtain ⟨i1, i2⟩ := ih (by omega)
      refine ⟨fun hkm => ?_, fun hmk => ?_⟩
      · show sumR m _ + Dd rows' m < sumR m _ + Dd rows m
        by_cases c : m = k
        · subst c
          rw [i2 (Nat.le_refl _)]; omega
        · rw [h m (by omega) c]
          have := i1 (by omega); omega
      · show sumR m _ + Dd rows' m = sumR m _ + Dd rows m
        rw [i2 (by omega), h m (by omega) (by omega)]
  exact (this n (Nat.le_refl _)).1 hk
theorem LInv.swapped {n e k : Nat} {rows0 rows : Mat} {U V : List Int} (h4 : n ≤ 4) (h0 : Sq n n rows0) (hd0 : detN n rows0 ≠ 0) (h : LInv n e rows0 rows (k + 1)) (hk : k + 1 < n) (hU : rows[k]? = some U) (hV : rows[k + 1]? = some V) (hs : standB rows k = false) (at_ : Nat) (ha : at_ = max 1 k) :
    LInv n e rows0 ((rows.set k V).set (k + 1) U) at_ ∧ pot n ((rows.set k V).set (k + 1) U) < pot n rows := by
  have sq := h.same.sq
  have hl := sq.1
  have hdet : detN n rows ≠ 0 := by have := h.same.dt; omega
  have hd := Dd_pos h4 sq hdet
  have e := syl k rows U V V (by omega) hU
  rw [← Dd_succ hU, Mu_symm (x := V) (y := U) (by omega) (by omega), ← lam_at hV hU, ← Dd_succ hV] at e
  have lt : Mu rows k V V < Dd rows (k + 1) := by
    unfold standB at hs
    have hs2 := of_decide_eq_false hs
    rcases Int.lt_or_le (Mu rows k V V) (Dd rows (k + 1)) with c | c
    · exact c
    · exfalso
      apply hs2
      have d := hd (k + 1) (by omega)
      have m1 : Dd rows (k + 1) * Dd rows (k + 1) ≤ Dd rows (k + 1) * Mu rows k V V := Int.mul_le_mul_of_nonneg_left c (by omega)
      have m2 := Int.mul_comm (Dd rows k) (Dd rows (k + 1 + 1))
      have m3 : 3 * Dd rows (k + 1) * Dd rows (k + 1) = 3 * (Dd rows (k + 1) * Dd rows (k + 1)) := Int.mul_assoc ..
      have p := sq_nonneg (Dd rows (k + 1))
      rw [show k + 2 = k + 1 + 1 from rfl]
      omega
  have dne : ∀ a, a ≤ n → a ≠ k + 1 → Dd ((rows.set k V).set (k + 1) U) a = Dd rows a := fun a ha hne => Dd_swap h4 sq hU hV ha hne
  have deq := Dd_swapped hU hV
  have kp : ∀ i, i < k → ((rows.set k V).set (k + 1) U)[i]? = rows[i]? := fun i hi => by rw [List.getElem?_set_ne (by omega), List.getElem?_set_ne (by omega)]
  refine ⟨⟨h.same.trans h0 (Same.swap h4 sq (by omega) hU hV), fun a ha => ?_, fun r hr => ?_, fun i hi j hj => ?_, fun j hj => ?_⟩, pot_lt (k := k + 1) (fun a ha hne => dne a (by omega) hne) hk (by rw [deq]; exact lt)⟩
  · by_cases c : a = k + 1
    · subst c
      rw [deq]
      have := h.dd (k + 1) ha
      omega
    · rw [dne a ha c]; exact h.dd a ha
  · rcases mem_set2 hr with hr | rfl | rfl
    · exact h.sz r hr
    · exact h.sz _ (List.mem_of_getElem? hV)
    · exact h.sz _ (List.mem_of_getElem? hU)
  · have hik : i < k := by omega
    rw [lam_congr kp hik (by omega), dne _ (by omega) (by omega)]
    exact h.sh i (by omega) j hj
  · have := h.lo j (by omega)
    unfold standB at this ⊢
    rw [dne _ (by omega) (by omega), dne _ (by omega) (by omega), dne _ (by omega) (by omega), lam_congr kp (by omega) (by omega)]
    exact this
theorem pot_nonneg {n : Nat} {rows : Mat} (h : ∀ a, a < n → 0 ≤ Dd rows a) : 0 ≤ pot n rows := by
  unfold pot
  have : ∀ m, m ≤ n → 0 ≤ sumR m fun a => Dd rows a := by
    intro m
    induction m with
    | zero => intro _; exact Int.le_refl _
    | succ m ih =>
      intro hm
      show 0 ≤ sumR m _ + Dd rows m
      have := ih (by omega)
      have := h m (by omega)
      omega
  exact this n (Nat.le_refl _)
end L3
set_option pp.maxSteps 600
namespace L3
open PySem PySem.Spec PyProof.Rows L2
local macro_rules | `(tactic| wtm_at "sh") => `(tactic| conv => whnf)
theorem lf_cut {α : Type} {f : α → PyData} {l' : List PyData} (h : α → PyData) (pr : α → Bool) (l : List α) (e : l' = l.map f) (hsz : l.length ≤ sizeLine) {r1 : Rho} {js : List Nat} {g : TG3} {tt : TT3} {te : TE3} {Fin : Addr → List T → Rho → Prop}
    (turn : ∀ r0, wp r1 js = r0 → ∀ u, u ∈ l → ∀ (R : T → Rho → Prop) (S : Rho → Prop), (pr u = true → ∀ r4, wp r4 js = r0 → R (.d (h u)) r4) → (pr u = false → ∀ r3, wp r3 js = r0 → S r3) → g (.d (f u)) r0 fun r2 => tt r2 fun b r3 => (b = true → te r3 R) ∧ (b = false → S r3))
    (fin : ∀ r0, wp r1 js = r0 → ∀ p, Fin p ((l.filter pr).map fun u => T.d (h u)) r0) :
    ∀ p, ∃ W : Nat → List T → Rho → Prop, W 0 [] (wp r1 js) ∧
      (∀ (i : Nat) (x : PyData) (acc : List T) (r : Rho), l'[i]? = some x → W i acc r → g (.d x) r fun r2 => tt r2 fun b r3 => (b = true → te r3 fun y r4 => acc.length < sizeLine ∧ W (i + 1) (acc ++ [y]) (wp r4 js)) ∧ (b = false → W (i + 1) acc (wp r3 js))) ∧
      ∀ acc r, W l'.length acc r → Fin p acc r := by
  subst e
  exact lf_gen h pr l hsz turn fin
instance (rows : Mat) (k : Nat) : Decidable (ShB rows k) := by unfold ShB; infer_instance
theorem ShOk.of {n b : Nat} {rows : Mat} (h4 : n ≤ 4) (hs : Sq n n rows) (hd : detN n rows ≠ 0) (hz : ∀ r ∈ rows, SzL b r) (hb : b ≤ 1000) : ShOk n n b rows :=
  ⟨hs, h4, h4, fun a ha => Dd_pos h4 hs hd a (by omega), fun a ha => (Dd_Sz h4 h4 hs hz (by omega)).mono (by omega), hz, by omega⟩
end L3
set_option pp.maxSteps 600
namespace L3
open PySem PySem.Spec PyProof.Rows L2
local macro_rules | `(tactic| wtm_at "sh") => `(tactic| conv => whnf)
end L3
set_option pp.maxSteps 600
namespace L3
open PySem PySem.Spec PyProof.Rows L2
local macro_rules | `(tactic| wtm_at "sh") => `(tactic| conv => whnf)
def MatOk2 (M : Mat) : Prop := M.length ≤ 4 ∧ ∀ r ∈ M, r.length ≤ 5 ∧ SzL 2000 r
theorem MatOk2.of {n b : Nat} {M : Mat} (h : Sq n n M) (h4 : n ≤ 4) (hz : ∀ r ∈ M, SzL b r) (hb : b ≤ 2000) : MatOk2 M := ⟨by rw [h.1]; exact h4, fun r hr => ⟨by rw [h.2 r hr]; omega, (hz r hr).mono hb⟩⟩
end L3
set_option pp.maxSteps 600
namespace L3
open PySem PySem.Spec PyProof.Rows L2
local macro_rules | `(tactic| wtm_at "sh") => `(tactic| conv => whnf)
end L3
namespace L3
open PySem PySem.Spec PyProof.Rows L2
local macro_rules | `(tactic| wtm_at "sh") => `(tactic| conv => whnf)
/-! ## refusals of what is no lattice -/
def N_measure : List Str := ["rows"]
def body_measure : TS3 := (xSeq (xDrop (xCall sp_need_lattice xNoE (xArg (xView 0) xANil)))
  (xRet (xCall sp_measure_of xNoE (xArg (xView 0) xANil))))
def sp_measure : Sp3 := fun ts Q _ => ∃ rows b, ts = [.d (matP rows)] ∧ rows.length ≤ 4 ∧ latB rows = true ∧ (∀ r ∈ rows, SzL b r) ∧ b ≤ 370 ∧ Q (.d (.int (detN rows.length rows).natAbs)) ts
theorem v_measure (ts Q E) (h : sp_measure ts Q E) : body_measure { nx := fun r => finOk ts r ∧ Q (.d .none) (finF ts r), rt := fun x r => finOk ts r ∧ Q x (finF ts r) } (start3 N_measure ts) := by
  obtain ⟨rows, b, rfl, h1, h2, hB, hb, k⟩ := h
  obtain ⟨n0, hs, hd⟩ := lat_sq h2
  exact ⟨nd0, rows, b, rfl, h1, h2, hB, hb, nd0, rows, rows.length, b, rfl, hs, h1, hB, hb, ⟨⟩, k⟩
/-- rows that tell no lattice, and that are no longer than what can be looked at -/
def BadR (rows : Mat) : Prop := ∃ b, rows.length ≤ 1000 ∧ (∀ r ∈ rows, r.length ≤ 1000) ∧ (sqB rows = true → rows.length ≤ 4) ∧ (∀ r ∈ rows, SzL b r) ∧ b ≤ 370 ∧ latB rows = false
def N_need_lattice_x : List Str := ["rows"]
def body_need_lattice_x (cN : Str → Addr) : TS3 := (xIfS (xNot (xTest (xFz (xCall sp_is_lattice xNoE (xArg (xView 0) xANil))))) (xRaise (cN "NoLattice")) xNext)
def sp_need_lattice_x (cN : Str → Addr) : Sp3 := fun ts Q E => ∃ rows, ts = [.d (matP rows)] ∧ ((BadR rows ∧ E (cN "NoLattice") ts) ∨ sp_need_lattice ts Q xNoE)
theorem v_need_lattice_x (cN : Str → Addr) (ts Q E) (h : sp_need_lattice_x cN ts Q E) : body_need_lattice_x cN { nx := fun r => finOk ts r ∧ Q (.d .none) (finF ts r), rt := fun x r => finOk ts r ∧ Q x (finF ts r), ex := fun C r => finOk ts r ∧ E C (finF ts r) } (start3 N_need_lattice_x ts) := by
  obtain ⟨rows, rfl, ⟨⟨b, h1, h2, h3, hB, hb, hl⟩, e⟩ | ⟨rows', b, e1, h1, h2, hB, hb, k⟩⟩ := h
  · refine ⟨nd0, rows, b, rfl, h1, h2, h3, hB, hb, fun _ => ⟨⟨⟩, e⟩, fun hc => ?_⟩
    have : (!latB rows) = false := hc
    rw [hl] at this
    cases this
  · have hq := sqB_iff.mp ((Bool.and_eq_true _ _ ▸ h2 : sqB rows' = true ∧ _).1)
    refine ⟨nd0, rows', b, e1, by omega, fun r hr => by have := hq.2.2 r hr; omega, fun _ => h1, hB, hb, fun hc => ?_, fun _ => ⟨⟨⟩, k⟩⟩
    have : (!latB rows') = true := hc
    rw [h2] at this
    cases this
def N_measure_x : List Str := ["rows"]
def body_measure_x (cN : Str → Addr) : TS3 := (xSeq (xDropX (xCallX (sp_need_lattice_x cN) (xArg (xView 0) xANil)))
  (xNox (xRet (xCall sp_measure_of xNoE (xArg (xView 0) xANil)))))
def sp_measure_x (cN : Str → Addr) : Sp3 := fun ts Q E => ∃ rows, ts = [.d (matP rows)] ∧ ((BadR rows ∧ E (cN "NoLattice") ts) ∨ sp_measure ts Q xNoE)
theorem v_measure_x (cN : Str → Addr) (ts Q E) (h : sp_measure_x cN ts Q E) : body_measure_x cN { nx := fun r => finOk ts r ∧ Q (.d .none) (finF ts r), rt := fun x r => finOk ts r ∧ Q x (finF ts r), ex := fun C r => finOk ts r ∧ E C (finF ts r) } (start3 N_measure_x ts) := by
  obtain ⟨rows, rfl, ⟨hb, e⟩ | h⟩ := h
  · exact ⟨nd0, rows, rfl, .inl ⟨hb, ⟨⟩, e⟩⟩
  · obtain ⟨_, rest⟩ := v_measure [.d (matP rows)] Q (fun _ _ => False) h
    exact ⟨nd0, rows, rfl, .inr rest⟩
end L3
set_option pp.maxSteps 600
namespace L3
open PySem PySem.Spec PyProof.Rows L2
local macro_rules | `(tactic| wtm_at "sh") => `(tactic| conv => whnf)
theorem latB_det {M : Mat} {n : Nat} (h : Sq n n M) (hd : detN n M = 0) : latB M = false := by
  unfold latB
  rw [h.1, hd]; simp
theorem latB_odd {M : Mat} {r : List Int} (hr : r ∈ M) (hne : r.length ≠ M.length) : latB M = false := by
  unfold latB sqB
  rw [show decide (∀ r ∈ M, r.length = M.length) = false from decide_eq_false fun h => hne (h r hr)]
  simp
theorem latB_nil : latB [] = false := rfl
theorem det_zero_row {n i : Nat} {rows : Mat} (h : Sq n n rows) (hi : i < n) : detN n (rows.set i (List.replicate n 0)) = 0 := by
  have e : List.replicate n (0 : Int) = (List.replicate n (0 : Int)).map (0 * ·) := by simp
  rw [e, det_scale 0 h hi (by simp), Int.zero_mul]
theorem others_of {rows : Mat} {k : Nat} {i : Int} (e : i = (k : Nat)) (h : k < rows.length) : cutL (rows.map rowT) none (some i) ++ cutL (rows.map rowT) (some (i + 1)) none = (rows.eraseIdx k).map rowT := by
  subst e
  rw [cut_take (by rw [List.length_map]; omega), show (k : Int) + 1 = ((k + 1 : Nat) : Int) by omega, cut_drop (by rw [List.length_map]; omega), ← List.map_take, ← List.map_drop, List.eraseIdx_eq_take_drop_succ, List.map_append]
theorem erase_at {rows : Mat} {k i : Nat} {U : List Int} (h : (rows.eraseIdx k)[i]? = some U) : ∃ j, j ≠ k ∧ rows[j]? = some U := by
  rw [List.getElem?_eraseIdx] at h
  split at h
  · exact ⟨i, by omega, h⟩
  · exact ⟨i + 1, by omega, h⟩
theorem MatOk.of {n m b : Nat} {M : Mat} (hm : M.length ≤ 4) (hn : ∀ r ∈ M, r.length ≤ 5) (hz : ∀ r ∈ M, SzL b r) (hb : b ≤ 1000) : MatOk M := ⟨hm, fun r hr => ⟨hn r hr, (hz r hr).mono hb⟩⟩
theorem set_sz {b k : Nat} {rows : Mat} {r : List Int} (hz : ∀ r ∈ rows, SzL b r) (h : SzL b r) : ∀ x ∈ rows.set k r, SzL b x := fun x hx => by
  rcases List.mem_or_eq_of_mem_set hx with h1 | rfl
  · exact hz x h1
  · exact h
end L3
set_option pp.maxSteps 600
namespace L3
open PySem PySem.Spec PyProof.Rows L2
local macro_rules | `(tactic| wtm_at "sh") => `(tactic| conv => whnf)
end L3
set_option pp.maxSteps 600
namespace L3
open PySem PySem.Spec PyProof.Rows L2
local macro_rules | `(tactic| wtm_at "sh") => `(tactic| conv => whnf)
/-! ## shares and spans, kept while rows change: plain laws -/
theorem last_set {l : Mat} {x z : List Int} {i : Nat} (h : i < l.length) : l.set i z ++ [x] = (l ++ [x]).set i z := by
  rw [List.set_append_left _ _ h]
theorem Mu_add {n i j a : Nat} {rows : Mat} {U V x y : List Int} {m : Int} (h4 : n ≤ 4) (ha : a ≤ 3) (h : Sq n n rows) (hij : i ≠ j) (hi : i < a) (hj : j < a) (han : a ≤ n) (hU : rows[i]? = some U) (hV : rows[j]? = some V) : Mu (rows.set i (vAdd U m V)) a x y = Mu rows a x y := by
  have hl := h.1
  have lU := h.2 U (List.mem_of_getElem? hU)
  have lV := h.2 V (List.mem_of_getElem? hV)
  have l1 := take_len (rows := rows) (a := a) (by omega)
  have gU : ∀ z, (rows.take a ++ [z])[i]? = some U := fun z => by rw [List.getElem?_append_left (by omega), List.getElem?_take, if_pos hi]; exact hU
  have gV : ∀ z, (rows.take a ++ [z])[j]? = some V := fun z => by rw [List.getElem?_append_left (by omega), List.getElem?_take, if_pos hj]; exact hV
  have step : ∀ (z : List Int) (ys : Mat), ys.length = a + 1 → detN (a + 1) (gm ((rows.take a ++ [z]).set i (vAdd U m V)) ys) = detN (a + 1) (gm (rows.take a ++ [z]) ys) := fun z ys ly => by
    rw [gm_set, pr_vAdd ys (by omega)]
    exact det_add m (by omega) (gm_sq (one_len l1) ly) hij (gm_get (gU z)) (gm_get (gV z))
  unfold Mu
  rw [List.take_set, last_set (by omega), last_set (by omega), step _ _ (by rw [List.length_set]; exact one_len l1), gm_T (a + 1) _ _ (by omega) (one_len l1) (by rw [List.length_set]; exact one_len l1), step _ _ (one_len l1), gm_T (a + 1) _ _ (by omega) (one_len l1) (one_len l1)]
theorem Mu_swap {n i a : Nat} {rows : Mat} {U V x y : List Int} (h4 : n ≤ 4) (ha : a ≤ 3) (h : Sq n n rows) (hi : i + 1 < a) (han : a ≤ n) (hU : rows[i]? = some U) (hV : rows[i + 1]? = some V) : Mu ((rows.set i V).set (i + 1) U) a x y = Mu rows a x y := by
  have hl := h.1
  have l1 := take_len (rows := rows) (a := a) (by omega)
  have gU : ∀ z, (rows.take a ++ [z])[i]? = some U := fun z => by rw [List.getElem?_append_left (by omega), List.getElem?_take, if_pos (by omega)]; exact hU
  have gV : ∀ z, (rows.take a ++ [z])[i + 1]? = some V := fun z => by rw [List.getElem?_append_left (by omega), List.getElem?_take, if_pos hi]; exact hV
  have step : ∀ (z : List Int) (ys : Mat), ys.length = a + 1 → detN (a + 1) (gm (((rows.take a ++ [z]).set i V).set (i + 1) U) ys) = - detN (a + 1) (gm (rows.take a ++ [z]) ys) := fun z ys ly => by
    rw [gm_set, gm_set]
    exact det_swap (by omega) (gm_sq (one_len l1) ly) (by omega) (gm_get (gU z)) (gm_get (gV z))
  unfold Mu
  rw [List.take_set, List.take_set, last_set (by rw [List.length_set]; omega), last_set (by omega), last_set (by rw [List.length_set]; omega), last_set (by omega), step _ _ (by rw [List.length_set, List.length_set]; exact one_len l1), gm_T (a + 1) _ _ (by omega) (one_len l1) (by rw [List.length_set, List.length_set]; exact one_len l1), step _ _ (one_len l1), Int.neg_neg, gm_T (a + 1) _ _ (by omega) (one_len l1) (one_len l1)]
theorem mu_take2 {rows : Mat} {k l a : Nat} {x y z w : List Int} (h : a ≤ k) (h2 : a ≤ l) : Mu ((rows.set k z).set l w) a x y = Mu rows a x y := by
  rw [mu_take h2, mu_take h]
/-- all shares behind a row that another one ahead was taken off from -/
theorem lam_cutAll {n k p i j : Nat} {rows : Mat} {U V : List Int} {m : Int} (h4 : n ≤ 4) (h : Sq n n rows) (hp : p < k) (hk : k < n) (hi : i < n) (hj : j ≤ i) (hU : rows[k]? = some U) (hV : rows[p]? = some V) :
    lam (rows.set k (vAdd U (-m) V)) i j = if i = k ∧ j < p + 1 then lam rows k j - m * lam rows p j else lam rows i j := by
  have hl := h.1
  have lU := h.2 U (List.mem_of_getElem? hU)
  have lV := h.2 V (List.mem_of_getElem? hV)
  obtain ⟨R, hR⟩ : ∃ R, rows[j]? = some R := ⟨_, List.getElem?_eq_getElem (by omega)⟩
  obtain ⟨S, hS⟩ : ∃ S, rows[i]? = some S := ⟨_, List.getElem?_eq_getElem (by omega)⟩
  by_cases e : i = k
  · subst e
    by_cases e2 : j < i
    · rw [lam_cut h4 h hp e2 hU hV]
      by_cases e3 : j < p + 1
      · rw [if_pos ⟨rfl, e3⟩]
      · rw [if_neg (by omega), lam_zero h4 h (show p < j by omega) (by omega), Int.mul_zero, Int.sub_zero]
    · have e4 : j = i := by omega
      subst e4
      have g : (rows.set j (vAdd U (-m) V))[j]? = some (vAdd U (-m) V) := List.getElem?_set_self (by omega)
      rw [if_neg (by omega), lam_self g, lam_self hU, Dd_add h4 h hp hU hV (by omega)]
  · rw [if_neg (fun c => e c.1)]
    have gS : (rows.set k (vAdd U (-m) V))[i]? = some S := by rw [List.getElem?_set_ne (by omega)]; exact hS
    by_cases e2 : j = k
    · subst e2
      have g : (rows.set j (vAdd U (-m) V))[j]? = some (vAdd U (-m) V) := List.getElem?_set_self (by omega)
      rw [lam_at gS g, lam_at hS hU, mu_take (Nat.le_refl _), Mu_linL (by omega) (by omega), Mu_altL (by omega) (by omega) hp hV, Int.mul_zero, Int.add_zero]
    · have gR : (rows.set k (vAdd U (-m) V))[j]? = some R := by rw [List.getElem?_set_ne (by omega)]; exact hR
      rw [lam_at gS gR, lam_at hS hR]
      by_cases e3 : j < k
      · rw [mu_take (by omega)]
      · exact Mu_add h4 (by omega) h (by omega) (by omega) (by omega) (by omega) hU hV
/-- what the shares and spans are behind an exchange -/
structure Exch (n k : Nat) (rows : Mat) (rows' : Mat) : Prop where
  sp : Dd rows (k + 1) * Dd rows' (k + 1) = Dd rows k * Dd rows (k + 2) + lam rows (k + 1) k * lam rows (k + 1) k
  dd : ∀ a, a ≤ n → a ≠ k + 1 → Dd rows' a = Dd rows a
  up : ∀ j, j < k → lam rows' k j = lam rows (k + 1) j
  dn : ∀ j, j < k → lam rows' (k + 1) j = lam rows k j
  kk : lam rows' k k = Dd rows' (k + 1)
  sh : lam rows' (k + 1) k = lam rows (k + 1) k
  two : lam rows' (k + 1) (k + 1) = lam rows (k + 1) (k + 1)
  b1 : ∀ i, k + 1 < i → i < n → Dd rows (k + 1) * lam rows' i (k + 1) = Dd rows (k + 2) * lam rows i k - lam rows (k + 1) k * lam rows i (k + 1)
  b0 : ∀ i, k + 1 < i → i < n → Dd rows (k + 2) * lam rows' i k = Dd rows' (k + 1) * lam rows i (k + 1) + lam rows (k + 1) k * lam rows' i (k + 1)
  st : ∀ i j, i < n → j ≤ i → (i < k ∨ (k + 1 < i ∧ j ≠ k ∧ j ≠ k + 1)) → lam rows' i j = lam rows i j
theorem exch {n k : Nat} {rows : Mat} {U V : List Int} (h4 : n ≤ 4) (h : Sq n n rows) (hd : ∀ a, a ≤ n → 0 < Dd rows a) (hk : k + 1 < n) (hU : rows[k]? = some U) (hV : rows[k + 1]? = some V) : Exch n k rows ((rows.set k V).set (k + 1) U) := by
  have hl := h.1
  have g0 : ((rows.set k V).set (k + 1) U)[k]? = some V := by rw [List.getElem?_set_ne (by omega), List.getElem?_set_self (by omega)]
  have g1 : ((rows.set k V).set (k + 1) U)[k + 1]? = some U := List.getElem?_set_self (by rw [List.length_set]; omega)
  have gi : ∀ {i : Nat} {S : List Int}, i ≠ k → i ≠ k + 1 → rows[i]? = some S → ((rows.set k V).set (k + 1) U)[i]? = some S := fun {i} {S} e1 e2 hS => by rw [List.getElem?_set_ne (by omega), List.getElem?_set_ne (by omega)]; exact hS
  have tk : ∀ {a : Nat} {x y : List Int}, a ≤ k → Mu ((rows.set k V).set (k + 1) U) a x y = Mu rows a x y := fun ha => mu_take2 ha (by omega)
  have dk : Dd ((rows.set k V).set (k + 1) U) k = Dd rows k := Dd_swap h4 h hU hV (by omega) (by omega)
  have pk := hd k (by omega)
  have sw : Dd ((rows.set k V).set (k + 1) U) (k + 1) = Mu rows k V V := Dd_swapped hU hV
  have lkk : lam rows (k + 1) k = Mu rows k U V := lam_at hV hU
  have sy := syl k rows U
  have sy2 := syl k ((rows.set k V).set (k + 1) U) V
  refine ⟨?_, fun a ha hne => Dd_swap h4 h hU hV ha hne, fun j hj => ?_, fun j hj => ?_, lam_self g0, ?_, ?_, fun i hi hin => ?_, fun i hi hin => ?_, fun i j hi hj hc => ?_⟩
  · have e := sy V V (by omega) hU
    rw [← Dd_succ hU, ← Dd_succ hV, Mu_symm (x := V) (y := U) (by omega) (by omega), ← lkk] at e
    rw [sw]
    show Dd rows (k + 1) * Mu rows k V V = Dd rows k * Dd rows (k + 1 + 1) + _
    omega
  · obtain ⟨R, hR⟩ : ∃ R, rows[j]? = some R := ⟨_, List.getElem?_eq_getElem (by omega)⟩
    rw [lam_at g0 (gi (by omega) (by omega) hR), lam_at hV hR, tk (by omega)]
  · obtain ⟨R, hR⟩ : ∃ R, rows[j]? = some R := ⟨_, List.getElem?_eq_getElem (by omega)⟩
    rw [lam_at g1 (gi (by omega) (by omega) hR), lam_at hU hR, tk (by omega)]
  · rw [lam_at g1 g0, lam_at hV hU, tk (Nat.le_refl _), Mu_symm (by omega) (by omega)]
  · rw [lam_self g1, lam_self hV]
    exact Dd_swap h4 h hU hV (by omega) (by omega)
  · obtain ⟨S, hS⟩ : ∃ S, rows[i]? = some S := ⟨_, List.getElem?_eq_getElem (by omega)⟩
    have gS := gi (by omega) (by omega) hS
    rw [lam_at gS g1, lam_at hS hU, lam_at hS hV, lkk]
    have e1 := sy V S (by omega) hU
    have e2 := sy2 U S (by omega) g0
    have e3 := sy V V (by omega) hU
    rw [tk (Nat.le_refl _), tk (Nat.le_refl _), tk (Nat.le_refl _), tk (Nat.le_refl _), dk] at e2
    rw [Mu_symm (x := V) (y := U) (by omega) (by omega), ← Dd_succ hU] at e1 e3
    rw [← Dd_succ hV] at e3
    have key : Dd rows k * (Dd rows (k + 1) * Mu ((rows.set k V).set (k + 1) U) (k + 1) U S) = Dd rows k * (Dd rows (k + 2) * Mu rows k U S - Mu rows k U V * Mu rows (k + 1) V S) := by
      show _ = Dd rows k * (Dd rows (k + 1 + 1) * _ - _)
      generalize Mu ((rows.set k V).set (k + 1) U) (k + 1) U S = A at *
      generalize Mu rows (k + 1) V S = B at *
      generalize Dd rows (k + 1 + 1) = C at *
      grind
    exact Int.eq_of_mul_eq_mul_left (by omega) key
  · obtain ⟨S, hS⟩ : ∃ S, rows[i]? = some S := ⟨_, List.getElem?_eq_getElem (by omega)⟩
    have gS := gi (by omega) (by omega) hS
    rw [lam_at gS g0, lam_at gS g1, lam_at hS hV, lkk, sw, tk (Nat.le_refl _)]
    have e1 := sy V S (by omega) hU
    have e2 := sy2 U S (by omega) g0
    have e3 := sy V V (by omega) hU
    rw [tk (Nat.le_refl _), tk (Nat.le_refl _), tk (Nat.le_refl _), tk (Nat.le_refl _), dk] at e2
    rw [Mu_symm (x := V) (y := U) (by omega) (by omega), ← Dd_succ hU] at e1 e3
    rw [← Dd_succ hV] at e3
    have key : Dd rows k * (Dd rows (k + 2) * Mu rows k V S) = Dd rows k * (Mu rows k V V * Mu rows (k + 1) V S + Mu rows k U V * Mu ((rows.set k V).set (k + 1) U) (k + 1) U S) := by
      show Dd rows k * (Dd rows (k + 1 + 1) * _) = _
      generalize Mu ((rows.set k V).set (k + 1) U) (k + 1) U S = A at *
      generalize Mu rows (k + 1) V S = B at *
      generalize Dd rows (k + 1 + 1) = C at *
      grind
    exact Int.eq_of_mul_eq_mul_left (by omega) key
  · obtain ⟨R, hR⟩ : ∃ R, rows[j]? = some R := ⟨_, List.getElem?_eq_getElem (by omega)⟩
    obtain ⟨S, hS⟩ : ∃ S, rows[i]? = some S := ⟨_, List.getElem?_eq_getElem (by omega)⟩
    rcases hc with hc | ⟨h1, h2, h3⟩
    · rw [lam_at (gi (by omega) (by omega) hS) (gi (by omega) (by omega) hR), lam_at hS hR, tk (by omega)]
    · rw [lam_at (gi (by omega) (by omega) hS) (gi h2 h3 hR), lam_at hS hR]
      by_cases e : j < k
      · exact tk (by omega)
      · exact Mu_swap h4 (by omega) h (by omega) (by omega) hU hV
/-! ## shares and spans as lists of one's own -/
def rowG (L : Nat → Nat → Int) (i : Nat) : List T := (List.range (i + 1)).map fun j => T.d (.int (L i j))
def shG (f : Nat → Addr) (L : Nat → Nat → Int) (m : Nat) : List T := (List.range m).map fun i => T.own (f i) (rowG L i)
def spG (D : Nat → Int) (k : Nat) : List T := (List.range k).map fun j => T.d (.int (D j))
theorem shT_G (rows : Mat) (f : Nat → Addr) (m : Nat) : shT rows f m = shG f (lam rows) m := by
  unfold shT shG
  refine List.map_congr_left fun i _ => ?_
  unfold lamR rowG
  rw [List.map_map]; rfl
theorem spL_G (rows : Mat) (k : Nat) : ((spL rows k).map fun x => T.d (.int x)) = spG (Dd rows) k := by
  unfold spL spG
  rw [List.map_map]; rfl
def upd2 (L : Nat → Nat → Int) (a b : Nat) (v : Int) : Nat → Nat → Int := fun i j => if i = a ∧ j = b then v else L i j
theorem rowG_at {L : Nat → Nat → Int} {i j : Nat} (h : j ≤ i) : (rowG L i)[j]? = some (.d (.int (L i j))) := by
  unfold rowG
  rw [List.getElem?_map, List.getElem?_range (by omega)]; rfl
theorem rowG_len (L : Nat → Nat → Int) (i : Nat) : (rowG L i).length = i + 1 := by unfold rowG; rw [List.length_map, List.length_range]
theorem shG_len (f : Nat → Addr) (L : Nat → Nat → Int) (m : Nat) : (shG f L m).length = m := by unfold shG; rw [List.length_map, List.length_range]
theorem spG_len (D : Nat → Int) (m : Nat) : (spG D m).length = m := by unfold spG; rw [List.length_map, List.length_range]
theorem shG_at {f : Nat → Addr} {L : Nat → Nat → Int} {m i : Nat} (h : i < m) : (shG f L m)[i]? = some (.own (f i) (rowG L i)) := by
  unfold shG
  rw [List.getElem?_map, List.getElem?_range h]; rfl
theorem shG_get {f : Nat → Addr} {L : Nat → Nat → Int} {m i : Nat} {x : Int} (e : x = (i : Nat)) (h : i < m) : getI (shG f L m) x = some (.own (f i) (rowG L i)) := getI_at e (shG_at h)
theorem rowG_get {L : Nat → Nat → Int} {i j : Nat} {x : Int} (e : x = (j : Nat)) (h : j ≤ i) : getI (rowG L i) x = some (.d (.int (L i j))) := getI_at e (rowG_at h)
theorem spG_get {D : Nat → Int} {m i : Nat} {x : Int} (e : x = (i : Nat)) (h : i < m) : getI (spG D m) x = some (.d (.int (D i))) := by
  refine getI_at e ?_
  unfold spG
  rw [List.getElem?_map, List.getElem?_range h]; rfl
theorem rowG_set (L : Nat → Nat → Int) (i j : Nat) (v : Int) : (rowG L i).set j (.d (.int v)) = rowG (upd2 L i j v) i := by
  refine List.ext_getElem? fun c => ?_
  unfold rowG upd2
  rw [List.getElem?_set]
  by_cases e : j = c
  · subst e
    rw [if_pos rfl, List.length_map, List.length_range, List.getElem?_map]
    by_cases h : j < i + 1
    · rw [if_pos h, List.getElem?_range h]; simp
    · rw [if_neg h, List.getElem?_eq_none (by rw [List.length_range]; omega)]; rfl
  · rw [if_neg e, List.getElem?_map, List.getElem?_map]
    by_cases h : c < i + 1
    · rw [List.getElem?_range h]; simp [show c ≠ j from fun q => e q.symm]
    · rw [List.getElem?_eq_none (by rw [List.length_range]; omega)]; rfl
theorem rowG_congr {L L' : Nat → Nat → Int} {i : Nat} (h : ∀ j, j ≤ i → L i j = L' i j) : rowG L i = rowG L' i := by
  unfold rowG
  refine List.map_congr_left fun j hj => ?_
  rw [h j (by have := List.mem_range.mp hj; omega)]
theorem shG_congr {f : Nat → Addr} {L L' : Nat → Nat → Int} {m : Nat} (h : ∀ i j, i < m → j ≤ i → L i j = L' i j) : shG f L m = shG f L' m := by
  unfold shG
  refine List.map_congr_left fun i hi => ?_
  rw [rowG_congr fun j hj => h i j (List.mem_range.mp hi) hj]
theorem shG_set (f : Nat → Addr) (L L' : Nat → Nat → Int) (m i : Nat) (h : ∀ a j, a ≠ i → L' a j = L a j) : (shG f L m).set i (.own (f i) (rowG L' i)) = shG f L' m := by
  refine List.ext_getElem? fun c => ?_
  unfold shG
  rw [List.getElem?_set]
  by_cases e : i = c
  · subst e
    rw [if_pos rfl, List.length_map, List.length_range, List.getElem?_map]
    by_cases hi : i < m
    · rw [if_pos hi, List.getElem?_range hi]; rfl
    · rw [if_neg hi, List.getElem?_eq_none (by rw [List.length_range]; omega)]; rfl
  · rw [if_neg e, List.getElem?_map, List.getElem?_map]
    by_cases hc : c < m
    · rw [List.getElem?_range hc]
      show some (T.own (f c) (rowG L c)) = some (T.own (f c) (rowG L' c))
      rw [rowG_congr fun j _ => (h c j (fun q => e q.symm)).symm]
    · rw [List.getElem?_eq_none (by rw [List.length_range]; omega)]; rfl
theorem upd2_off {L : Nat → Nat → Int} {a b i j : Nat} {v : Int} (h : i ≠ a) : upd2 L a b v i j = L i j := if_neg fun c => h c.1
theorem shG_set2 (f : Nat → Addr) (L : Nat → Nat → Int) (m i j : Nat) (v : Int) : (shG f L m).set i (.own (f i) ((rowG L i).set j (.d (.int v)))) = shG f (upd2 L i j v) m := by
  rw [rowG_set]
  exact shG_set f L _ m i fun a c h => upd2_off h
theorem spG_set (D : Nat → Int) (m i : Nat) (v : Int) : (spG D m).set i (.d (.int v)) = spG (fun a => if a = i then v else D a) m := by
  refine List.ext_getElem? fun c => ?_
  unfold spG
  rw [List.getElem?_set]
  by_cases e : i = c
  · subst e
    rw [if_pos rfl, List.length_map, List.length_range, List.getElem?_map]
    by_cases hi : i < m
    · rw [if_pos hi, List.getElem?_range hi]; simp
    · rw [if_neg hi, List.getElem?_eq_none (by rw [List.length_range]; omega)]; rfl
  · rw [if_neg e, List.getElem?_map, List.getElem?_map]
    by_cases hc : c < m
    · rw [List.getElem?_range hc]; simp [show c ≠ i from fun q => e q.symm]
    · rw [List.getElem?_eq_none (by rw [List.length_range]; omega)]; rfl
theorem spG_congr {D D' : Nat → Int} {m : Nat} (h : ∀ a, a < m → D a = D' a) : spG D m = spG D' m := by
  unfold spG
  refine List.map_congr_left fun j hj => ?_
  rw [h j (List.mem_range.mp hj)]
end L3
set_option pp.maxSteps 600
namespace L3
open PySem PySem.Spec PyProof.Rows L2
local macro_rules | `(tactic| wtm_at "sh") => `(tactic| conv => whnf)
/-- rows whose shares and spans can be kept -/
structure StOk (n B : Nat) (rows : Mat) : Prop where
  sq : Sq n n rows
  h4 : n ≤ 4
  pos : ∀ a, a ≤ n → 0 < Dd rows a
  dsz : ∀ a, a ≤ n → Sz 8990 (Dd rows a)
  sz : ∀ r ∈ rows, SzL B r
  hB : B ≤ 60000
theorem StOk.lamSz {n B i j : Nat} {rows : Mat} (h : StOk n B rows) (hi : i < n) (hj : j < n) : Sz 480021 (lam rows i j) := (lam_Sz h.h4 h.h4 h.sq h.sz hi hj).mono (by have := h.hB; omega)
theorem StOk.ddSz {n B a : Nat} {rows : Mat} (h : StOk n B rows) (ha : a ≤ n) : Sz 480021 (Dd rows a) := (h.dsz a ha).mono (by decide)
/-- the state of led rows -/
abbrev stT (pr ps pq : Addr) (f : Nat → Addr) (rows : Mat) (n : Nat) (rest : List T) : List T := matO pr rows :: .own ps (shG f (lam rows) n) :: .own pq (spG (Dd rows) (n + 1)) :: rest
def L1_cut_by : TS3 := (xFor (xR1 (x2 kAdd (xView 4) (xC (.int 1)))) (xGName 6) (xAugS2 (fun i j => i - j) 1 (xView 3) (xView 6) (x2 kMul (xView 5) (x2 cIx (x2 cIx (xView 1) (xView 4)) (xView 6)))))
def N_cut_by : List Str := ["rows", "shares", "spans", "at", "place", "many", "ahead"]
def body_cut_by : TS3 := (xSeq (xAsg (xD (x2 kDiv (x2 kAdd (x2 kMul (xC (.int 2)) (x2 cIx (x2 cIx (xView 1) (xView 3)) (xView 4))) (x2 cIx (xView 2) (x2 kAdd (xView 4) (xC (.int 1))))) (x2 kMul (xC (.int 2)) (x2 cIx (xView 2) (x2 kAdd (xView 4) (xC (.int 1))))))) (xGName 5))
  (xIfS (xTest (x2 kNeI (xView 5) (xC (.int 0)))) (xSeq (xAsg (xD (xFz (xCall sp_taken_off xNoE (xArg (x2 cIx (xView 0) (xView 3)) (xArg (xView 5) (xArg (x2 cIx (xView 0) (xView 4)) xANil)))))) (xGSub 0 (xView 3)))
  L1_cut_by) xNext))
/-- the whole multiple that a row is less by -/
def manyOf (rows : Mat) (k p : Nat) : Int := (2 * lam rows k p + Dd rows (p + 1)) / (2 * Dd rows (p + 1))
def sp_cut_by : Sp3 := fun ts Q _ => ∃ pr ps pq f rows n B k p U V at_ pl_, ts = stT pr ps pq f rows n [.d (.int at_), .d (.int pl_)] ∧ at_ = (k : Nat) ∧ pl_ = (p : Nat) ∧ StOk n B rows ∧ p < k ∧ k < n ∧ rows[k]? = some U ∧ rows[p]? = some V ∧
  Q (.d .none) (stT pr ps pq f (rows.set k (vAdd U (-manyOf rows k p) V)) n [.d (.int at_), .d (.int pl_)])
theorem manyOf_Sz {n B k p : Nat} {rows : Mat} (h : StOk n B rows) (hk : k < n) (hp : p < k) : Sz 480025 (manyOf rows k p) := by
  have d0 := h.pos (p + 1) (by omega)
  unfold manyOf
  refine Sz.le (j := 2 * lam rows k p + Dd rows (p + 1)) ?_ (by rw [← Int.fdiv_eq_ediv_of_nonneg _ (by omega)]; exact fdiv_le)
  exact (((show Sz 2 2 by unfold Sz; decide).mul (h.lamSz hk (show p < n by omega))).add ((h.ddSz (show p + 1 ≤ n by omega)).mono (by decide))).mono (by decide)
theorem v_cut_by (ts Q E) (h : sp_cut_by ts Q E) : body_cut_by { nx := fun r => finOk ts r ∧ Q (.d .none) (finF ts r), rt := fun x r => finOk ts r ∧ Q x (finF ts r) } (start3 N_cut_by ts) := by
  obtain ⟨pr, ps, pq, f, rows, n, B, k, p, U, V, at_, pl_, rfl, rfl, rfl, hS, hp, hk, hU, hV, q⟩ := h
  have hb2 : 1000 < sizeLine := by decide
  have hl := hS.sq.1
  have h4 := hS.h4
  have d0 := hS.pos (p + 1) (by omega)
  have ep : ((p : Nat) : Int) + 1 = ((p + 1 : Nat) : Int) := by omega
  have lU := hS.sq.2 U (List.mem_of_getElem? hU)
  have lV := hS.sq.2 V (List.mem_of_getElem? hV)
  refine ⟨rfl, _, shG_get rfl hk, rfl, _, rowG_get rfl (by omega), mulOkL (by decide) (by decide), rfl, _, spG_get ep (by omega), rfl, _, spG_get ep (by omega), mulOkL (by decide) (by decide), divOk (n := 8992) (by show (0 : Int) < 2 * _; omega) (((show Sz 2 2 by unfold Sz; decide).mul (hS.dsz (p + 1) (by omega))).mono (by decide)) (by decide), ?_⟩
  have zM := manyOf_Sz hS hk hp
  have zV := hS.sz V (List.mem_of_getElem? hV)
  have fin : ∀ (l1 : List T), l1 = shG f (lam (rows.set k (vAdd U (-manyOf rows k p) V))) n → Q (.d .none) [matO pr (rows.set k (vAdd U (-manyOf rows k p) V)), .own ps l1, .own pq (spG (Dd rows) (n + 1)), .d (.int (k : Nat)), .d (.int (p : Nat))] := fun l1 e => by
    have e2 : spG (Dd rows) (n + 1) = spG (Dd (rows.set k (vAdd U (-manyOf rows k p) V))) (n + 1) := spG_congr fun a ha => (Dd_add h4 hS.sq hp hU hV (by omega)).symm
    rw [e, e2]
    exact q
  refine ⟨fun hc => ?_, fun hc => ?_⟩
  · refine ⟨rfl, _, matO_at rfl hU, rfl, _, matO_at rfl hV, nd0, false, false, U, V, _, _, _, rfl, zM, fun b hb => zV.mem hb, by have := hS.hB; omega, by omega, by omega, fun pa => ⟨nvs_map _ _, ?_⟩⟩
    rw [fz_own pa PyData.int (vAdd U (-((2 * lam rows k p + Dd rows (p + 1)) / (2 * Dd rows (p + 1)))) V)]
    refine ⟨_, setI_at rfl (by rw [List.length_map]; omega), ?_⟩
    refine ⟨by omega, by omega, fun t r => ∃ M l1 L s6, r = [some (.own pr M), some (.own ps l1), some (.own pq (spG (Dd rows) (n + 1))), some (.d (.int (k : Nat))), some (.d (.int (p : Nat))), some (.d (.int (manyOf rows k p))), s6] ∧ M = ((rows.set k (vAdd U (-manyOf rows k p) V)).map fun r => T.d (rowD r)) ∧ l1 = shG f L n ∧ (∀ i j, L i j = if i = k ∧ j < t then lam rows k j - manyOf rows k p * lam rows p j else lam rows i j) ∧ t ≤ p + 1, ⟨_, _, lam rows, _, rfl, by rw [List.map_set]; rfl, rfl, fun i j => by rw [if_neg (by omega)], by omega⟩, fun t x r hx hW => ?_, fun r hW => ?_⟩
    · obtain ⟨M, l1, L, s6, rfl, rfl, rfl, hL, ht⟩ := hW
      obtain ⟨ht1, rfl⟩ := rangeI_get hx
      have ht2 : t < p + 1 := by omega
      have et : (0 : Int) + (t : Nat) = ((t : Nat) : Int) := by omega
      have hm := shG_set2 f L n k t (lam rows k t - manyOf rows k p * lam rows p t)
      have e1 : L k t = lam rows k t := by rw [hL, if_neg (by omega)]
      have e2 : L p t = lam rows p t := by rw [hL, if_neg (by omega)]
      have zl := hS.lamSz (i := p) (j := t) (by omega) (by omega)
      refine ⟨_, _, shG_get rfl hk, rfl, rfl, t, _, et, rowG_at (by omega), rfl, _, shG_get rfl (by omega), rfl, _, rowG_get et (by omega), by rw [e2]; exact mulOk zM zl (by decide), rfl, _, setI_at rfl (by rw [shG_len]; exact hk), _, _, _, _, rfl, rfl, by rw [e1, e2]; exact hm, fun i j => ?_, by omega⟩
      unfold upd2
      by_cases c : i = k ∧ j = t
      · obtain ⟨rfl, rfl⟩ := c
        rw [if_pos ⟨rfl, rfl⟩, if_pos ⟨rfl, by omega⟩]
      · rw [if_neg c, hL]
        by_cases c2 : i = k ∧ j < t
        · rw [if_pos c2, if_pos (by omega)]
        · rw [if_neg c2, if_neg (by omega)]
    · obtain ⟨M, l1, L, s6, rfl, rfl, rfl, hL, ht⟩ := hW
      rw [rangeI_len] at hL
      have et : (((p : Nat) : Int) + 1 - 0).toNat = p + 1 := by omega
      refine ⟨⟨rfl, rfl, rfl, ⟨⟩⟩, fin _ (shG_congr fun i j hi hj => ?_)⟩
      rw [lam_cutAll h4 hS.sq hp hk hi hj hU hV, hL]
      have e0 : (((p : Nat) : Int) + 1).toNat = p + 1 := by omega
      rw [e0]
  · have hm : manyOf rows k p = 0 := by
      have hc2 : (!decide (manyOf rows k p = 0)) = false := hc
      simpa using hc2
    have e0 : rows.set k (vAdd U (-manyOf rows k p) V) = rows := by
      rw [hm]
      have : vAdd U (-0) V = U := by
        unfold vAdd
        refine List.ext_getElem? fun i => ?_
        rw [List.getElem?_zipWith]
        by_cases hi : i < U.length
        · rw [List.getElem?_eq_getElem hi, List.getElem?_eq_getElem (show i < V.length by omega)]; simp
        · rw [List.getElem?_eq_none (by omega)]
      rw [this]
      exact set_same hU
    have := fin (shG f (lam rows) n) (by rw [e0])
    rw [e0] at this
    exact ⟨⟨rfl, rfl, rfl, ⟨⟩⟩, this⟩
def L1_exchanged : TS3 := (xFor (xR1 (x2 kSub (xView 3) (xC (.int 1)))) (xGName 5) (xAsg (xTup (xCons (xD (x2 cIx (x2 cIx (xView 1) (xView 3)) (xView 5))) (xCons (xD (x2 cIx (x2 cIx (xView 1) (x2 kSub (xView 3) (xC (.int 1)))) (xView 5))) xNil))) (xGTup 2 (xGCons (xGSub2 1 (x2 kSub (xView 3) (xC (.int 1))) (xView 5)) (xGCons (xGSub2 1 (xView 3) (xView 5)) xGNil)))))
def L2_exchanged : TS3 := (xFor (xR2 (x2 kAdd (xView 3) (xC (.int 1))) (x1 cLen (xView 0))) (xGName 7) (xSeq (xOut 8 1 (xView 7))
  (xSeq (xAsg (xD (x2 cIx (xView 8) (xView 3))) (xGName 9))
  (xSeq (xAsg (xD (x2 kDiv (x2 kSub (x2 kMul (x2 cIx (xView 2) (x2 kAdd (xView 3) (xC (.int 1)))) (x2 cIx (xView 8) (x2 kSub (xView 3) (xC (.int 1))))) (x2 kMul (xView 4) (xView 9))) (x2 cIx (xView 2) (xView 3)))) (xGSub 8 (xView 3)))
  (xSeq (xAsg (xD (x2 kDiv (x2 kAdd (x2 kMul (xView 6) (xView 9)) (x2 kMul (xView 4) (x2 cIx (xView 8) (xView 3)))) (x2 cIx (xView 2) (x2 kAdd (xView 3) (xC (.int 1)))))) (xGSub 8 (x2 kSub (xView 3) (xC (.int 1))))) (xBack 1 8 xNext))))))
def N_exchanged : List Str := ["rows", "shares", "spans", "at", "share", "place", "span", "behind", "own", "beside"]
def body_exchanged : TS3 := (xSeq (xAsg (xTup (xCons (xD (x2 cIx (xView 0) (xView 3))) (xCons (xD (x2 cIx (xView 0) (x2 kSub (xView 3) (xC (.int 1))))) xNil))) (xGTup 2 (xGCons (xGSub 0 (x2 kSub (xView 3) (xC (.int 1)))) (xGCons (xGSub 0 (xView 3)) xGNil))))
  (xSeq (xAsg (xD (x2 cIx (x2 cIx (xView 1) (xView 3)) (x2 kSub (xView 3) (xC (.int 1))))) (xGName 4))
  (xSeq L1_exchanged
  (xSeq (xAsg (xD (x2 kDiv (x2 kAdd (x2 kMul (x2 cIx (xView 2) (x2 kSub (xView 3) (xC (.int 1)))) (x2 cIx (xView 2) (x2 kAdd (xView 3) (xC (.int 1))))) (x2 kMul (xView 4) (xView 4))) (x2 cIx (xView 2) (xView 3)))) (xGName 6))
  (xSeq L2_exchanged
  (xSeq (xAsg (xMove 6) (xGSub 2 (xView 3)))
  (xAsg (xMove 6) (xGSub2 1 (x2 kSub (xView 3) (xC (.int 1))) (x2 kSub (xView 3) (xC (.int 1)))))))))))
def sp_exchanged : Sp3 := fun ts Q _ => ∃ pr ps pq f rows n B k U V at_, ts = stT pr ps pq f rows n [.d (.int at_)] ∧ at_ = ((k + 1 : Nat) : Int) ∧ StOk n B rows ∧ k + 1 < n ∧ rows[k]? = some U ∧ rows[k + 1]? = some V ∧
  Q (.d .none) (stT pr ps pq f ((rows.set k V).set (k + 1) U) n [.d (.int at_)])
/-- the shares amid an exchange, so far as the t-th row behind -/
def exMid (rows rows' : Mat) (k t : Nat) : Nat → Nat → Int := fun i j => if i < k + 2 + t ∧ ¬ (i = k ∧ j = k) then lam rows' i j else lam rows i j
theorem v_exchanged (ts Q E) (h : sp_exchanged ts Q E) : body_exchanged { nx := fun r => finOk ts r ∧ Q (.d .none) (finF ts r), rt := fun x r => finOk ts r ∧ Q x (finF ts r) } (start3 N_exchanged ts) := by
  obtain ⟨pr, ps, pq, f, rows, n, B, k, U, V, at_, rfl, rfl, hS, hk, hU, hV, q⟩ := h
  have hb2 : 1000 < sizeLine := by decide
  have hl := hS.sq.1
  have h4 := hS.h4
  have lm : (rows.map fun r => T.d (rowD r)).length = rows.length := List.length_map ..
  have e1 : ((k + 1 : Nat) : Int) - 1 = ((k : Nat) : Int) := by omega
  have e2 : ((k + 1 : Nat) : Int) + 1 = ((k + 2 : Nat) : Int) := by omega
  have X := exch h4 hS.sq hS.pos hk hU hV
  have d1 := hS.pos (k + 1) (by omega)
  have d2 := hS.pos (k + 2) (by omega)
  have lU := hS.sq.2 U (List.mem_of_getElem? hU)
  have lV := hS.sq.2 V (List.mem_of_getElem? hV)
  have sq' : Sq n n ((rows.set k V).set (k + 1) U) := (hS.sq.set lV).set lU
  have sz' : ∀ r ∈ (rows.set k V).set (k + 1) U, SzL B r := fun r hr => by
    rcases mem_set2 hr with hr | rfl | rfl
    · exact hS.sz r hr
    · exact hS.sz _ (List.mem_of_getElem? hV)
    · exact hS.sz _ (List.mem_of_getElem? hU)
  have zl' : ∀ {i j}, i < n → j < n → Sz 480021 (lam ((rows.set k V).set (k + 1) U) i j) := fun hi hj => (lam_Sz h4 h4 sq' sz' hi hj).mono (by have := hS.hB; omega)
  have zd' : ∀ {a}, a ≤ n → Sz 480021 (Dd ((rows.set k V).set (k + 1) U) a) := fun ha => (Dd_Sz h4 h4 sq' sz' ha).mono (by have := hS.hB; omega)
  generalize hR : (rows.set k V).set (k + 1) U = rows' at X q sq' sz' zl' zd'
  refine ⟨rfl, _, matO_at rfl hV, rfl, _, matO_at e1 hU, sz 2, rfl, _, setI_at e1 (by omega), _, setI_at rfl (by rw [List.length_set]; omega), ?_⟩
  refine ⟨rfl, _, shG_get rfl hk, rfl, _, rowG_get e1 (by omega), ?_⟩
  refine ⟨by omega, by omega, fun t r => ∃ M l1 L s5, r = [some (.own pr M), some (.own ps l1), some (.own pq (spG (Dd rows) (n + 1))), some (.d (.int (k + 1 : Nat))), some (.d (.int (lam rows (k + 1) k))), s5, none, none, none, none] ∧ M = (rows'.map fun r => T.d (rowD r)) ∧ l1 = shG f L n ∧ (∀ i j, L i j = if i = k ∧ j < t then lam rows (k + 1) j else if i = k + 1 ∧ j < t then lam rows k j else lam rows i j) ∧ t ≤ k, ⟨_, _, lam rows, _, rfl, by rw [← hR, List.map_set, List.map_set]; rfl, rfl, fun i j => by rw [if_neg (by omega), if_neg (by omega)], by omega⟩, fun t x r hx hW => ?_, fun r hW => ?_⟩
  · obtain ⟨M, l1, L, s5, rfl, rfl, rfl, hL, ht⟩ := hW
    obtain ⟨ht1, rfl⟩ := rangeI_get hx
    have ht2 : t < k := by omega
    have et : (0 : Int) + (t : Nat) = ((t : Nat) : Int) := by omega
    have v1 : L (k + 1) t = lam rows (k + 1) t := by rw [hL, if_neg (by omega), if_neg (by omega)]
    have v0 : L k t = lam rows k t := by rw [hL, if_neg (by omega), if_neg (by omega)]
    have m1 := shG_set2 f L n k t (L (k + 1) t)
    have m2 := shG_set2 f (upd2 L k t (L (k + 1) t)) n (k + 1) t (L k t)
    refine ⟨rfl, _, shG_get rfl hk, rfl, _, rowG_get et (by omega), rfl, _, shG_get e1 (by omega), rfl, _, rowG_get et (by omega), sz 2, rfl, _, _, shG_get e1 (by omega), rfl, rfl, _, setI_at et (by rw [rowG_len]; omega), _, (setI_at e1 (by rw [shG_len]; omega)).trans (congrArg some m1), ?_⟩
    have m2' : (shG f (upd2 L k t (L (k + 1) t)) n).set (k + 1) (.own (f (k + 1)) ((rowG (upd2 L k t (L (k + 1) t)) (k + 1)).set t (.d (.int (L k t))))) = shG f (upd2 (upd2 L k t (L (k + 1) t)) (k + 1) t (L k t)) n := m2
    refine ⟨_, _, shG_get rfl hk, rfl, rfl, _, setI_at et (by rw [rowG_len]; omega), _, (setI_at rfl (by rw [shG_len]; omega)).trans (congrArg some m2'), _, _, _, _, rfl, rfl, rfl, fun i j => ?_, by omega⟩
    unfold upd2
    by_cases c : i = k + 1 ∧ j = t
    · rw [if_pos c, if_neg (by omega), if_pos (by omega), c.2]; exact v0
    · rw [if_neg c]
      by_cases c2 : i = k ∧ j = t
      · rw [if_pos c2, if_pos (by omega), c2.2]; exact v1
      · rw [if_neg c2, hL]
        by_cases c3 : i = k ∧ j < t
        · rw [if_pos c3, if_pos (by omega)]
        · have c3' : ¬ (i = k ∧ j < t + 1) := by omega
          rw [if_neg c3, if_neg c3']
          by_cases c4 : i = k + 1 ∧ j < t
          · have c4' : i = k + 1 ∧ j < t + 1 := by omega
            rw [if_pos c4, if_pos c4']
          · have c4' : ¬ (i = k + 1 ∧ j < t + 1) := by omega
            rw [if_neg c4, if_neg c4']
  · obtain ⟨M, l1, L, s5, rfl, rfl, rfl, hL, ht⟩ := hW
    rw [rangeI_len] at hL
    have ek : (((k + 1 : Nat) : Int) - 1 - 0).toNat = k := by omega
    have ek2 : (((k + 1 : Nat) : Int) - 1).toNat = k := by omega
    rw [ek2] at hL
    have hmid : shG f L n = shG f (exMid rows rows' k 0) n := shG_congr fun i j hi hj => by
      rw [hL]
      unfold exMid
      by_cases c : i = k ∧ j < k
      · rw [if_pos c, if_pos (by omega), c.1, X.up j c.2]
      · rw [if_neg c]
        by_cases c2 : i = k + 1 ∧ j < k
        · rw [if_pos c2, if_pos (by omega), c2.1, X.dn j c2.2]
        · rw [if_neg c2]
          by_cases c3 : i < k + 2 + 0 ∧ ¬ (i = k ∧ j = k)
          · rw [if_pos c3]
            by_cases c4 : i < k
            · exact (X.st i j hi hj (.inl c4)).symm
            · obtain rfl : i = k + 1 := by omega
              rcases (show j = k ∨ j = k + 1 by omega) with rfl | rfl
              · exact X.sh.symm
              · exact X.two.symm
          · rw [if_neg c3]
    have lD : (Dd rows k * Dd rows (k + 2) + lam rows (k + 1) k * lam rows (k + 1) k) / Dd rows (k + 1) = Dd rows' (k + 1) := by
      rw [← X.sp, Int.mul_ediv_cancel_left _ (by omega)]
    have zL := hS.lamSz (i := k + 1) (j := k) hk (by omega)
    have zD : ∀ {a}, a ≤ n → Sz 480021 (Dd rows a) := fun ha => hS.ddSz ha
    refine ⟨rfl, _, spG_get e1 (by omega), rfl, _, spG_get e2 (by omega), mulOk (zD (by omega)) (zD (by omega)) (by decide), mulOk zL zL (by decide), rfl, _, spG_get rfl (by omega), divOk (n := 8990) d1 (hS.dsz _ (by omega)) (by decide), ?_⟩
    have lm2 : ((rows'.map fun r => T.d (rowD r)).length : Int) = (n : Nat) := by rw [List.length_map, sq'.1]
    refine ⟨⟨by omega, by omega, by show -(2 ^ 62) ≤ ((rows'.map fun r => T.d (rowD r)).length : Int); omega, by show ((rows'.map fun r => T.d (rowD r)).length : Int) < 2 ^ 62; omega⟩, fun t r => ∃ l1 L sp_ s7 s8 s9, r = [some (matO pr rows'), some (.own ps l1), some (.own pq (spG (Dd rows) (n + 1))), some (.d (.int (k + 1 : Nat))), some (.d (.int (lam rows (k + 1) k))), s5, some (.d (.int sp_)), s7, s8, s9] ∧ sp_ = Dd rows' (k + 1) ∧ l1 = shG f L n ∧ (∀ i j, i < n → j ≤ i → L i j = exMid rows rows' k t i j) ∧ k + 2 + t ≤ n, ⟨_, exMid rows rows' k 0, _, _, _, _, rfl, lD, hmid, fun i j _ _ => rfl, by omega⟩, fun t x r hx hW => ?_, fun r hW => ?_⟩
    · obtain ⟨l1, L, sp_, s7, s8, s9, rfl, rfl, rfl, hL, ht⟩ := hW
      obtain ⟨ht1, rfl⟩ := rangeI_get hx
      have ht2 : k + 2 + t < n := by
        have : t < (((rows'.map fun r => T.d (rowD r)).length : Int) - (((k + 1 : Nat) : Int) + 1)).toNat := ht1
        omega
      have et : ((k + 1 : Nat) : Int) + 1 + (t : Nat) = ((k + 2 + t : Nat) : Int) := by omega
      have w0 : L (k + 2 + t) k = lam rows (k + 2 + t) k := by rw [hL _ _ ht2 (by omega)]; exact if_neg (by omega)
      have w1 : L (k + 2 + t) (k + 1) = lam rows (k + 2 + t) (k + 1) := by rw [hL _ _ ht2 (by omega)]; exact if_neg (by omega)
      have q1 : (Dd rows (k + 2) * lam rows (k + 2 + t) k - lam rows (k + 1) k * lam rows (k + 2 + t) (k + 1)) / Dd rows (k + 1) = lam rows' (k + 2 + t) (k + 1) := by
        rw [← X.b1 _ (by omega) ht2, Int.mul_ediv_cancel_left _ (by omega)]
      have q0 : (Dd rows' (k + 1) * lam rows (k + 2 + t) (k + 1) + lam rows (k + 1) k * lam rows' (k + 2 + t) (k + 1)) / Dd rows (k + 2) = lam rows' (k + 2 + t) k := by
        rw [← X.b0 _ (by omega) ht2, Int.mul_ediv_cancel_left _ (by omega)]
      have z0 := hS.lamSz (i := k + 2 + t) (j := k) ht2 (by omega)
      have z1 := hS.lamSz (i := k + 2 + t) (j := k + 1) ht2 (by omega)
      have r1 : (rowG L (k + 2 + t)).set (k + 1) (.d (.int ((Dd rows (k + 2) * L (k + 2 + t) k - lam rows (k + 1) k * L (k + 2 + t) (k + 1)) / Dd rows (k + 1)))) = rowG (upd2 L (k + 2 + t) (k + 1) (lam rows' (k + 2 + t) (k + 1))) (k + 2 + t) := by rw [w0, w1, q1]; exact rowG_set ..
      have u1 : upd2 L (k + 2 + t) (k + 1) (lam rows' (k + 2 + t) (k + 1)) (k + 2 + t) (k + 1) = lam rows' (k + 2 + t) (k + 1) := if_pos ⟨rfl, rfl⟩
      have r2 : (rowG (upd2 L (k + 2 + t) (k + 1) (lam rows' (k + 2 + t) (k + 1))) (k + 2 + t)).set k (.d (.int ((Dd rows' (k + 1) * L (k + 2 + t) (k + 1) + lam rows (k + 1) k * upd2 L (k + 2 + t) (k + 1) (lam rows' (k + 2 + t) (k + 1)) (k + 2 + t) (k + 1)) / Dd rows (k + 2)))) = rowG (upd2 (upd2 L (k + 2 + t) (k + 1) (lam rows' (k + 2 + t) (k + 1))) (k + 2 + t) k (lam rows' (k + 2 + t) k)) (k + 2 + t) := by rw [u1, w1, q0]; exact rowG_set ..
      refine ⟨rfl, _, _, shG_get et ht2, _, setI_at et (by rw [shG_len]; exact ht2), rfl, _, rowG_get rfl (by omega), rfl, _, spG_get e2 (by omega), rfl, _, rowG_get e1 (by omega), by rw [w0]; exact mulOk (zD (by omega)) z0 (by decide), by rw [w1]; exact mulOk zL z1 (by decide), rfl, _, spG_get rfl (by omega), divOk (n := 8990) d1 (hS.dsz _ (by omega)) (by decide), ?_⟩
      refine ⟨_, (setI_at rfl (by rw [rowG_len]; omega)).trans (congrArg some r1), ?_⟩
      refine ⟨by rw [w1]; exact mulOk (zd' (by omega)) z1 (by decide), rfl, _, rowG_get rfl (by omega), by rw [u1]; exact mulOk zL (zl' ht2 (by omega)) (by decide), rfl, _, spG_get e2 (by omega), divOk (n := 8990) d2 (hS.dsz _ (by omega)) (by decide), ?_⟩
      refine ⟨_, (setI_at e1 (by rw [rowG_len]; omega)).trans (congrArg some r2), ?_⟩
      refine ⟨k + 2 + t, List.getElem?_set_self (by rw [shG_len]; exact ht2), ?_⟩
      refine ⟨_, _, _, _, _, _, rfl, rfl, (List.set_set ..).trans (shG_set f L (upd2 (upd2 L (k + 2 + t) (k + 1) (lam rows' (k + 2 + t) (k + 1))) (k + 2 + t) k (lam rows' (k + 2 + t) k)) n (k + 2 + t) fun a c h => by rw [upd2_off h, upd2_off h]), fun i j hi hj => ?_, by omega⟩
      unfold upd2
      by_cases c : i = k + 2 + t ∧ j = k
      · rw [if_pos c, c.1, c.2]
        exact (if_pos (by omega)).symm
      · rw [if_neg c]
        by_cases c2 : i = k + 2 + t ∧ j = k + 1
        · rw [if_pos c2, c2.1, c2.2]
          exact (if_pos (by omega)).symm
        · rw [if_neg c2, hL _ _ hi hj]
          unfold exMid
          by_cases c3 : i < k + 2 + t ∧ ¬ (i = k ∧ j = k)
          · rw [if_pos c3, if_pos (by omega)]
          · rw [if_neg c3]
            by_cases c4 : i = k + 2 + t
            · rw [if_pos (by omega)]
              exact (X.st i j hi hj (.inr (by omega))).symm
            · rw [if_neg (by omega)]
    · obtain ⟨l1, L, sp_, s7, s8, s9, rfl, rfl, rfl, hL, ht⟩ := hW
      rw [rangeI_len] at hL
      have en : (((rows'.map fun r => T.d (rowD r)).length : Int) - (((k + 1 : Nat) : Int) + 1)).toNat = n - (k + 2) := by omega
      have eD := spG_set (Dd rows) (n + 1) (k + 1) (Dd rows' (k + 1))
      have eL := shG_set2 f L n k k (Dd rows' (k + 1))
      refine ⟨_, (setI_at rfl (by rw [spG_len]; omega)).trans (congrArg some eD), _, _, shG_get e1 (by omega), rfl, rfl, _, setI_at e1 (by rw [rowG_len]; omega), _, (setI_at e1 (by rw [shG_len]; omega)).trans (congrArg some eL), ?_⟩
      have f1 : spG (fun a => if a = k + 1 then Dd rows' (k + 1) else Dd rows a) (n + 1) = spG (Dd rows') (n + 1) := spG_congr fun a ha => by
        by_cases c : a = k + 1
        · rw [if_pos c, c]
        · rw [if_neg c, X.dd a (by omega) c]
      have f2 : shG f (upd2 L k k (Dd rows' (k + 1))) n = shG f (lam rows') n := shG_congr fun i j hi hj => by
        unfold upd2
        by_cases c : i = k ∧ j = k
        · rw [if_pos c, c.1, c.2, X.kk]
        · rw [if_neg c, hL i j hi hj]
          unfold exMid
          exact if_pos ⟨by
            have : i < k + 2 + (((rows'.map fun r => T.d (rowD r)).length : Int) - (((k + 1 : Nat) : Int) + 1)).toNat := by omega
            exact this, c⟩
      have q2 : Q (.d .none) [matO pr rows', .own ps (shG f (upd2 L k k (Dd rows' (k + 1))) n), .own pq (spG (fun a => if a = k + 1 then Dd rows' (k + 1) else Dd rows a) (n + 1)), .d (.int (k + 1 : Nat))] := by
        rw [f1, f2]; exact q
      exact ⟨⟨rfl, rfl, rfl, ⟨⟩⟩, q2⟩
end L3
set_option pp.maxSteps 600
namespace L3
open PySem PySem.Spec PyProof.Rows L2
local macro_rules | `(tactic| wtm_at "sh") => `(tactic| conv => whnf)
/-- each right part's square is at most X -/
def RatB (n : Nat) (X : Int) (rows : Mat) : Prop := ∀ a, a < n → Dd rows (a + 1) ≤ X * Dd rows a
theorem mu_le {n : Nat} {rows : Mat} (h4 : n ≤ 4) (hs : Sq n n rows) (hd : ∀ a, a ≤ n → 0 < Dd rows a) {r : List Int} (hr : r.length = n) : ∀ a, a ≤ 3 → a < n → Mu rows a r r ≤ Dd rows a * dot r r
  | 0, _, _ => by rw [Mu_zero, Dd_zero]; omega
  | a + 1, ha, han => by
    have hl := hs.1
    have ih := mu_le h4 hs hd hr a (by omega) (by omega)
    obtain ⟨s, hs2⟩ : ∃ s, rows[a]? = some s := ⟨_, List.getElem?_eq_getElem (by omega)⟩
    have e := syl a rows s r r (by omega) hs2
    rw [← Dd_succ hs2, Mu_symm (x := r) (y := s) (by omega) (by omega)] at e
    have d0 := hd a (by omega)
    have d1 := hd (a + 1) (by omega)
    have p := sq_nonneg (Mu rows a s r)
    have m1 : Dd rows (a + 1) * Mu rows a r r ≤ Dd rows (a + 1) * (Dd rows a * dot r r) := Int.mul_le_mul_of_nonneg_left ih (by omega)
    have m2 : Dd rows a * Mu rows (a + 1) r r ≤ Dd rows a * (Dd rows (a + 1) * dot r r) := by
      have e3 : Dd rows a * (Dd rows (a + 1) * dot r r) = Dd rows (a + 1) * (Dd rows a * dot r r) := by grind
      omega
    exact Int.le_of_mul_le_mul_left m2 d0
theorem RatB.of {n : Nat} {X : Int} {rows : Mat} (h4 : n ≤ 4) (hs : Sq n n rows) (hd : ∀ a, a ≤ n → 0 < Dd rows a) (hX : ∀ r ∈ rows, dot r r ≤ X) : RatB n X rows := fun a ha => by
  obtain ⟨r, hr⟩ : ∃ s, rows[a]? = some s := ⟨_, List.getElem?_eq_getElem (by have := hs.1; omega)⟩
  have hm := List.mem_of_getElem? hr
  have := mu_le h4 hs hd (hs.2 r hm) a (by omega) ha
  rw [Dd_succ hr]
  have h2 := Int.mul_le_mul_of_nonneg_left (hX r hm) (Int.le_of_lt (hd a (by omega)))
  rw [Int.mul_comm X]; omega
theorem norm_dn {n k : Nat} {X : Int} {rows : Mat} {r : List Int} (h4 : n ≤ 4) (hs : Sq n n rows) (hd : ∀ a, a ≤ n → 0 < Dd rows a) (hR : RatB n X rows) (hk : k < n) (hr : rows[k]? = some r) (sh : ShB rows k) : ∀ c a, a + c = k → 4 * Mu rows a r r ≤ Dd rows a * ((4 + c) * X)
  | 0, a, h => by
    obtain rfl : a = k := by omega
    rw [← Dd_succ hr]
    have := hR a hk
    have e : Dd rows a * ((4 + (0 : Nat)) * X) = 4 * (X * Dd rows a) := by grind
    omega
  | c + 1, a, h => by
    have hl := hs.1
    have ih := norm_dn h4 hs hd hR hk hr sh c (a + 1) (by omega)
    obtain ⟨s, hs2⟩ : ∃ s, rows[a]? = some s := ⟨_, List.getElem?_eq_getElem (by omega)⟩
    have e := syl a rows s r r (by omega) hs2
    rw [← Dd_succ hs2, Mu_symm (x := r) (y := s) (by omega) (by omega), ← lam_at hr hs2] at e
    have b := sh a (by omega)
    have d1 := hd (a + 1) (by omega)
    have d0 := hd a (by omega)
    have l2 : 4 * (lam rows k a * lam rows k a) ≤ Dd rows (a + 1) * Dd rows (a + 1) := by
      rw [← Int.natAbs_mul_self (a := lam rows k a)]
      have h1 : (2 * (lam rows k a).natAbs) * (2 * (lam rows k a).natAbs) ≤ (Dd rows (a + 1)).natAbs * (Dd rows (a + 1)).natAbs := Nat.mul_le_mul (by omega) (by omega)
      have h2 := Int.natAbs_mul_self (a := Dd rows (a + 1))
      have h3 : (2 * (lam rows k a).natAbs) * (2 * (lam rows k a).natAbs) = 4 * ((lam rows k a).natAbs * (lam rows k a).natAbs) := by grind
      omega
    have m1 : Dd rows a * (4 * Mu rows (a + 1) r r) ≤ Dd rows a * (Dd rows (a + 1) * ((4 + (c : Nat)) * X)) := Int.mul_le_mul_of_nonneg_left ih (by omega)
    have m2 : Dd rows (a + 1) * Dd rows (a + 1) ≤ Dd rows (a + 1) * (X * Dd rows a) := Int.mul_le_mul_of_nonneg_left (hR a (by omega)) (by omega)
    have m3 : Dd rows (a + 1) * (4 * Mu rows a r r) ≤ Dd rows (a + 1) * (Dd rows a * ((4 + (c + 1 : Nat)) * X)) := by
      have e1 : Dd rows (a + 1) * (Dd rows a * ((4 + (c + 1 : Nat)) * X)) = Dd rows a * (Dd rows (a + 1) * ((4 + (c : Nat)) * X)) + Dd rows (a + 1) * (X * Dd rows a) := by
        have : ((c + 1 : Nat) : Int) = (c : Int) + 1 := by omega
        rw [this]; grind
      have e2 : Dd rows (a + 1) * (4 * Mu rows a r r) = 4 * (Dd rows (a + 1) * Mu rows a r r) := by grind
      have e3 : Dd rows a * (4 * Mu rows (a + 1) r r) = 4 * (Dd rows a * Mu rows (a + 1) r r) := by grind
      omega
    exact Int.le_of_mul_le_mul_left m3 d1
theorem norm_le2 {n k : Nat} {X : Int} {rows : Mat} {r : List Int} (h4 : n ≤ 4) (hs : Sq n n rows) (hd : ∀ a, a ≤ n → 0 < Dd rows a) (hR : RatB n X rows) (hk : k < n) (hr : rows[k]? = some r) (sh : ShB rows k) : dot r r ≤ 2 * X := by
  have h := norm_dn h4 hs hd hR hk hr sh k 0 (by omega)
  rw [Mu_zero, Dd_zero, Int.one_mul] at h
  have p := (dot_self r).1
  have hX : 0 ≤ X := by
    have r0 : Dd rows 1 ≤ X * Dd rows 0 := hR 0 (by omega)
    have d1 := hd 1 (by omega)
    rw [Dd_zero] at r0; omega
  have : (4 + (k : Nat) : Int) * X ≤ 8 * X := Int.mul_le_mul_of_nonneg_right (by omega) hX
  omega
theorem sz_of_norm {b : Nat} {X : Int} {r : List Int} (hX : 2 * X < 2 ^ (2 * b)) (h : dot r r ≤ 2 * X) : SzL b r := SzL.of fun a ha => by
  have h1 := dot_ge r a ha
  unfold Sz
  rcases Nat.lt_or_ge a.natAbs (2 ^ b) with c | c
  · exact c
  · exfalso
    have h2 : 2 ^ b * 2 ^ b ≤ a.natAbs * a.natAbs := Nat.mul_le_mul c c
    rw [← Nat.pow_add] at h2
    have h4 := Int.natAbs_mul_self (a := a)
    have h5 : ((2 ^ (b + b) : Nat) : Int) = (2 : Int) ^ (2 * b) := by rw [show 2 * b = b + b by omega]; simp
    omega
theorem dot_le {n c : Nat} {r : List Int} (h4 : n ≤ 4) (hr : r.length = n) (hz : SzL c r) : dot r r ≤ 2 ^ (2 * c + 2) := by
  have h := dot_sz (n := c) (k := c) r r (fun a h => hz.mem h) fun a h => hz.mem h
  rw [hr] at h
  have h2 : n * 2 ^ (c + c) ≤ 4 * 2 ^ (c + c) := Nat.mul_le_mul_right _ h4
  have e : ((2 ^ (2 * c + 2) : Nat) : Int) = (2 : Int) ^ (2 * c + 2) := by simp
  have e2 : 2 ^ (2 * c + 2) = 4 * 2 ^ (c + c) := by rw [show 2 * c + 2 = (c + c) + 2 by omega, Nat.pow_add]; omega
  omega
/-- the k-th row amid its cuts, t of them done -/
structure Mid (n b k t : Nat) (X : Int) (rows0 rows : Mat) : Prop where
  same : Same n rows0 rows
  rat : RatB n X rows
  szo : ∀ i r, i ≠ k → rows[i]? = some r → SzL b r
  szc : ∀ r, rows[k]? = some r → SzL (b + (n - k + t) * (8 * b + 24)) r
  sh : ∀ i, i < k → ShB rows i
  lo : ∀ j, j + 1 < k → standB rows j = true
  shk : ∀ j, j < k → k ≤ j + t → 2 * (lam rows k j).natAbs ≤ (Dd rows (j + 1)).natAbs
theorem Mid.pos {n b k t : Nat} {X : Int} {rows0 rows : Mat} (h4 : n ≤ 4) (hd0 : detN n rows0 ≠ 0) (h : Mid n b k t X rows0 rows) : ∀ a, a ≤ n → 0 < Dd rows a := Dd_pos h4 h.same.sq (by have := h.same.dt; omega)
theorem Mid.all {n b k t : Nat} {X : Int} {rows0 rows : Mat} (h : Mid n b k t X rows0 rows) : ∀ r ∈ rows, SzL (b + (n - k + t) * (8 * b + 24)) r := fun r hr => by
  obtain ⟨i, hi⟩ := List.getElem?_of_mem hr
  by_cases c : i = k
  · subst c; exact h.szc r hi
  · exact (h.szo i r c hi).mono (by omega)
theorem Mid.step {n b k t p : Nat} {X : Int} {rows0 rows : Mat} {U V : List Int} (h4 : n ≤ 4) (h0 : Sq n n rows0) (hd0 : detN n rows0 ≠ 0) (h : Mid n b k t X rows0 rows) (hk : k < n) (hp : p + t + 1 = k) (hU : rows[k]? = some U) (hV : rows[p]? = some V) :
    Mid n b k (t + 1) X rows0 (rows.set k (vAdd U (-manyOf rows k p) V)) ∧ pot n (rows.set k (vAdd U (-manyOf rows k p) V)) = pot n rows := by
  have sq := h.same.sq
  have hl := sq.1
  have hd := h.pos h4 hd0
  have lU := sq.2 U (List.mem_of_getElem? hU)
  have lV := sq.2 V (List.mem_of_getElem? hV)
  have zU := h.szc U hU
  have zV := h.szo p V (by omega) hV
  have d0 := hd (p + 1) (by omega)
  have dd : ∀ a, a ≤ n → Dd (rows.set k (vAdd U (-manyOf rows k p) V)) a = Dd rows a := fun a ha => Dd_add h4 sq (by omega) hU hV ha
  have kp : ∀ i, i < k → (rows.set k (vAdd U (-manyOf rows k p) V))[i]? = rows[i]? := fun i hi => by rw [List.getElem?_set_ne (by omega)]
  have zt : ∀ r ∈ rows.take p, SzL b r := fun r hr => by
    obtain ⟨i, hi⟩ := List.getElem?_of_mem hr
    have hip : i < p := by have := (List.getElem?_eq_some_iff.mp hi).1; rw [List.length_take] at this; omega
    rw [List.getElem?_take, if_pos hip] at hi
    exact h.szo i r (by omega) hi
  have zl : Sz (7 * b + (b + (n - k + t) * (8 * b + 24)) + 19) (lam rows k p) := by
    rw [lam_at hU hV]
    exact Mu_Sz2 h4 sq (by omega) (by omega) zt lV lU zV zU
  have zd : Sz (8 * b + 21) (Dd rows (p + 1)) := by
    rw [Dd_succ hV]
    exact (Mu_Sz2 h4 sq (by omega) (by omega) zt lV lV zV zV).mono (by omega)
  have zm : Sz (7 * b + (b + (n - k + t) * (8 * b + 24)) + 22) (manyOf rows k p) := by
    unfold manyOf
    refine Sz.le (j := 2 * lam rows k p + Dd rows (p + 1)) ?_ (by rw [← Int.fdiv_eq_ediv_of_nonneg _ (by omega)]; exact fdiv_le)
    have s1 : Sz (2 + (7 * b + (b + (n - k + t) * (8 * b + 24)) + 19)) (2 * lam rows k p) := (show Sz 2 2 by unfold Sz; decide).mul zl
    exact ((s1.mono (m := 7 * b + (b + (n - k + t) * (8 * b + 24)) + 21) (by omega)).add (zd.mono (by omega))).mono (by omega)
  refine ⟨⟨h.same.trans h0 (Same.add _ h4 sq (show k ≠ p by omega) hU hV), fun a ha => by rw [dd _ (by omega), dd _ (by omega)]; exact h.rat a ha, fun i r hi hr => ?_, fun r hr => ?_, fun i hi j hj => ?_, fun j hj => ?_, fun j hj hjt => ?_⟩, sumR_congr fun a ha => dd a (by omega)⟩
  · rw [List.getElem?_set_ne (by omega)] at hr
    exact h.szo i r hi hr
  · rw [List.getElem?_set_self (by omega)] at hr
    cases hr
    intro c
    rw [vAdd_getD (by omega)]
    have s1 := zm.neg.mul (zV c)
    have e : (n - k + (t + 1)) * (8 * b + 24) = (n - k + t) * (8 * b + 24) + (8 * b + 24) := by rw [show n - k + (t + 1) = (n - k + t) + 1 by omega, Nat.add_mul, Nat.one_mul]
    exact (((zU c).mono (show b + (n - k + t) * (8 * b + 24) ≤ 7 * b + (b + (n - k + t) * (8 * b + 24)) + 22 + b by omega)).add s1).mono (by rw [e]; omega)
  · rw [lam_congr kp hi (by omega), dd _ (by omega)]
    exact h.sh i hi j hj
  · have := h.lo j hj
    unfold standB at this ⊢
    rw [dd _ (by omega), dd _ (by omega), dd _ (by omega), lam_congr kp hj (by omega)]
    exact this
  · rw [lam_cut h4 sq (by omega) hj hU hV, dd _ (by omega)]
    by_cases e : j = p
    · subst e
      rw [lam_self hV]
      exact half_cut d0
    · rw [lam_zero h4 sq (show p < j by omega) (by omega), Int.mul_zero, Int.sub_zero]
      exact h.shk j hj (by omega)
theorem Mid.full {n b k t : Nat} {X : Int} {rows0 rows : Mat} (h4 : n ≤ 4) (hd0 : detN n rows0 ≠ 0) (hX : 2 * X < 2 ^ (2 * b)) (h : Mid n b k t X rows0 rows) (hk : k < n) (ht : k ≤ t) : ShB rows k ∧ ∀ r, rows[k]? = some r → SzL b r := by
  have sh : ShB rows k := fun j hj => h.shk j hj (by omega)
  exact ⟨sh, fun r hr => sz_of_norm hX (norm_le2 h4 h.same.sq (h.pos h4 hd0) h.rat hk hr sh)⟩
theorem Mid.on {n b k t : Nat} {X : Int} {rows0 rows : Mat} (h4 : n ≤ 4) (hd0 : detN n rows0 ≠ 0) (hX : 2 * X < 2 ^ (2 * b)) (h : Mid n b k t X rows0 rows) (hk : k < n) (ht : k ≤ t) (hs : ∀ j, j + 1 = k → standB rows j = true) : Mid n b (k + 1) 0 X rows0 rows := by
  obtain ⟨sh, zk⟩ := h.full h4 hd0 hX hk ht
  have all : ∀ i r, rows[i]? = some r → SzL b r := fun i r hr => by
    by_cases c : i = k
    · subst c; exact zk r hr
    · exact h.szo i r c hr
  refine ⟨h.same, h.rat, fun i r _ hr => all i r hr, fun r hr => (all _ r hr).mono (by omega), fun i hi => ?_, fun j hj => ?_, fun j _ hj => by omega⟩
  · by_cases c : i = k
    · subst c; exact sh
    · exact h.sh i (by omega)
  · by_cases c : j + 1 = k
    · exact hs j c
    · exact h.lo j (by omega)
theorem Mid.swapped {n b k : Nat} {X : Int} {rows0 rows : Mat} {U V : List Int} (h4 : n ≤ 4) (h0 : Sq n n rows0) (hd0 : detN n rows0 ≠ 0) (hX : 2 * X < 2 ^ (2 * b)) (h : Mid n b (k + 1) 1 X rows0 rows) (hk : k + 1 < n) (hU : rows[k]? = some U) (hV : rows[k + 1]? = some V) (hs : standB rows k = false) (at_ : Nat) (ha : at_ = max 1 k) :
    Mid n b at_ 0 X rows0 ((rows.set k V).set (k + 1) U) ∧ pot n ((rows.set k V).set (k + 1) U) < pot n rows := by
  have sq := h.same.sq
  have hl := sq.1
  have hd := h.pos h4 hd0
  have E := exch h4 sq hd hk hU hV
  have S := h.same.trans h0 (Same.swap h4 sq (by omega) hU hV)
  have hd' : ∀ a, a ≤ n → 0 < Dd ((rows.set k V).set (k + 1) U) a := Dd_pos h4 S.sq (by have := S.dt; omega)
  have d0 := hd k (by omega)
  have d1 := hd (k + 1) (by omega)
  have d2 := hd (k + 2) (by omega)
  have d1' := hd' (k + 1) (by omega)
  have kp : ∀ i, i < k → ((rows.set k V).set (k + 1) U)[i]? = rows[i]? := fun i hi => by rw [List.getElem?_set_ne (by omega), List.getElem?_set_ne (by omega)]
  have g1 : ((rows.set k V).set (k + 1) U)[k + 1]? = some U := List.getElem?_set_self (by rw [List.length_set]; omega)
  have g0 : ((rows.set k V).set (k + 1) U)[k]? = some V := by rw [List.getElem?_set_ne (by omega), List.getElem?_set_self (by omega)]
  have gi : ∀ i r, i ≠ k → i ≠ k + 1 → ((rows.set k V).set (k + 1) U)[i]? = some r → rows[i]? = some r := fun i r c1 c2 hr => by rw [List.getElem?_set_ne (by omega), List.getElem?_set_ne (by omega)] at hr; exact hr
  have zU := h.szo k U (by omega) hU
  have p := sq_nonneg (lam rows (k + 1) k)
  have lt : Dd ((rows.set k V).set (k + 1) U) (k + 1) < Dd rows (k + 1) := by
    unfold standB at hs
    have hs2 := of_decide_eq_false hs
    rcases Int.lt_or_le (Dd ((rows.set k V).set (k + 1) U) (k + 1)) (Dd rows (k + 1)) with c | c
    · exact c
    · exfalso
      apply hs2
      have m1 : Dd rows (k + 1) * Dd rows (k + 1) ≤ Dd rows (k + 1) * Dd ((rows.set k V).set (k + 1) U) (k + 1) := Int.mul_le_mul_of_nonneg_left c (by omega)
      have m2 := Int.mul_comm (Dd rows k) (Dd rows (k + 2))
      have m3 : 3 * Dd rows (k + 1) * Dd rows (k + 1) = 3 * (Dd rows (k + 1) * Dd rows (k + 1)) := Int.mul_assoc ..
      have p2 := sq_nonneg (Dd rows (k + 1))
      have e := E.sp
      omega
  refine ⟨⟨S, fun a ha2 => ?_, fun i r hi hr => ?_, fun r hr => ?_, fun i hi j hj => ?_, fun j hj => ?_, fun j _ hj => by omega⟩, pot_lt (k := k + 1) (fun a ha hne => E.dd a (by omega) hne) hk lt⟩
  · by_cases c : a = k
    · subst c
      rw [E.dd a (by omega) (by omega)]
      have := h.rat a (by omega)
      omega
    · by_cases c2 : a = k + 1
      · subst c2
        rw [E.dd (k + 1 + 1) (by omega) (by omega)]
        have r0 := h.rat k (by omega)
        have e := E.sp
        have m1 : Dd rows (k + 1) * Dd ((rows.set k V).set (k + 1) U) (k + 1) ≤ X * Dd rows k * Dd ((rows.set k V).set (k + 1) U) (k + 1) := Int.mul_le_mul_of_nonneg_right r0 (by omega)
        have m2 : Dd rows k * Dd rows (k + 2) ≤ Dd rows k * (X * Dd ((rows.set k V).set (k + 1) U) (k + 1)) := by
          have e3 : X * Dd rows k * Dd ((rows.set k V).set (k + 1) U) (k + 1) = Dd rows k * (X * Dd ((rows.set k V).set (k + 1) U) (k + 1)) := by grind
          omega
        exact Int.le_of_mul_le_mul_left m2 d0
      · rw [E.dd _ (by omega) (by omega), E.dd _ (by omega) (by omega)]
        exact h.rat a ha2
  · by_cases c1 : i = k
    · subst c1
      rw [g0] at hr
      cases hr
      obtain rfl : i = 0 := by omega
      exact (h.full h4 hd0 hX (by omega) (Nat.le_refl _)).2 V hV
    · by_cases c2 : i = k + 1
      · subst c2
        rw [g1] at hr
        cases hr
        exact zU
      · exact h.szo i r c2 (gi i r c1 c2 hr)
  · by_cases c1 : k = 0
    · subst c1
      obtain rfl : at_ = 1 := by omega
      rw [g1] at hr
      cases hr
      exact zU.mono (by omega)
    · obtain rfl : at_ = k := by omega
      rw [g0] at hr
      cases hr
      have := h.szc V hV
      rw [show n - (at_ + 1) + 1 = n - at_ + 0 by omega] at this
      exact this
  · by_cases c : i < k
    · rw [lam_congr kp c (by omega), E.dd _ (by omega) (by omega)]
      exact h.sh i (by omega) j hj
    · omega
  · have := h.lo j (by omega)
    have hjk : j + 1 < k := by omega
    unfold standB at this ⊢
    rw [E.dd _ (by omega) (by omega), E.dd _ (by omega) (by omega), E.dd _ (by omega) (by omega), lam_congr kp hjk (by omega)]
    exact this
end L3
set_option pp.maxSteps 600
namespace L3
open PySem PySem.Spec PyProof.Rows L2
local macro_rules | `(tactic| wtm_at "sh") => `(tactic| conv => whnf)
def L1_led_down : TS3 := (xFor (xR3 (x2 kSub (xView 3) (xC (.int 2))) (xNeg (xC (.int 1))) (xNeg (xC (.int 1)))) (xGName 5) (xDrop (xD (xFz (xCall sp_cut_by xNoE (xIo 0 (xIo 1 (xIo 2 (xArg (xView 3) (xArg (xView 5) xANil))))))))))
def N_led_down : List Str := ["rows", "shares", "spans", "at", "share", "place", "row"]
def body_led_down : TS3 := (xSeq (xAsg (xLc (xSeqI (xView 0)) (xGName 6) xYes (xD (xFz (x1 cLst (xView 6)))) [6]) (xGName 0))
  (xSeq (xAsg (xBor (xCall sp_shares_of xNoE (xArg (xView 0) xANil))) (xGTup 2 (xGCons (xGName 1) (xGCons (xGName 2) xGNil))))
  (xSeq (xAsg (xD (xC (.int 1))) (xGName 3))
  (xSeq (xWhile (xTest (x2 kLt (xView 3) (x1 cLen (xView 0)))) (xSeq (xDrop (xD (xFz (xCall sp_cut_by xNoE (xIo 0 (xIo 1 (xIo 2 (xArg (xView 3) (xArg (x2 kSub (xView 3) (xC (.int 1))) xANil)))))))))
  (xSeq (xAsg (xD (x2 cIx (x2 cIx (xView 1) (xView 3)) (x2 kSub (xView 3) (xC (.int 1))))) (xGName 4))
  (xIfS (xTest (x2 kLt (x2 kMul (xC (.int 4)) (x2 kAdd (x2 kMul (x2 cIx (xView 2) (x2 kAdd (xView 3) (xC (.int 1)))) (x2 cIx (xView 2) (x2 kSub (xView 3) (xC (.int 1))))) (x2 kMul (xView 4) (xView 4)))) (x2 kMul (x2 kMul (xC (.int 3)) (x2 cIx (xView 2) (xView 3))) (x2 cIx (xView 2) (xView 3))))) (xSeq (xDrop (xD (xFz (xCall sp_exchanged xNoE (xIo 0 (xIo 1 (xIo 2 (xArg (xView 3) xANil))))))))
  (xAsg (xD (x2 kMax (xC (.int 1)) (x2 kSub (xView 3) (xC (.int 1))))) (xGName 3))) (xSeq L1_led_down
  (xAugAdd 3 (xC (.int 1))))))))
  (xRet (xMove 0))))))
/-- led rows: short ones that tell the same lattice -/
structure Led (n b : Nat) (rows0 rows : Mat) : Prop where
  same : Same n rows0 rows
  sh : ∀ i, i < n → ShB rows i
  lo : ∀ k, k + 1 < n → standB rows k = true
  sz : ∀ r ∈ rows, SzL b r
/-- what is asked of rows to be led down: the rows' bits c, behind it two more -/
def sp_led_down : Sp3 := fun ts Q _ => ∃ rb rows0 n c, ts = [.d (matB rb rows0)] ∧ Sq n n rows0 ∧ 0 < n ∧ n ≤ 4 ∧ detN n rows0 ≠ 0 ∧ (∀ r ∈ rows0, SzL c r) ∧ c ≤ 1480 ∧ Sz 8990 (Dd rows0 n) ∧ ∀ p rows', Led n (c + 2) rows0 rows' → Q (matO p rows') ts
theorem rat_dsz {n c : Nat} {rows : Mat} (hd : ∀ a, a ≤ n → 0 < Dd rows a) (hR : RatB n (2 ^ (2 * c + 2)) rows) : ∀ a, a ≤ n → Dd rows a ≤ 2 ^ (a * (2 * c + 2))
  | 0, _ => by rw [Dd_zero]; simp
  | a + 1, ha => by
    have ih := rat_dsz hd hR a (by omega)
    have h1 := hR a (by omega)
    have h2 : (2 : Int) ^ (2 * c + 2) * Dd rows a ≤ 2 ^ (2 * c + 2) * 2 ^ (a * (2 * c + 2)) := Int.mul_le_mul_of_nonneg_left ih (Int.le_of_lt (Int.pow_pos (by decide)))
    rw [Nat.add_mul, Nat.one_mul, Int.pow_add, Int.mul_comm (2 ^ (a * (2 * c + 2)))]
    omega
theorem nd3 : ([0, 1, 2] : List Nat).Nodup := by decide
def led_rest : TS3 := (xSeq (xAsg (xBor (xCall sp_shares_of xNoE (xArg (xView 0) xANil))) (xGTup 2 (xGCons (xGName 1) (xGCons (xGName 2) xGNil))))
  (xSeq (xAsg (xD (xC (.int 1))) (xGName 3))
  (xSeq (xWhile (xTest (x2 kLt (xView 3) (x1 cLen (xView 0)))) (xSeq (xDrop (xD (xFz (xCall sp_cut_by xNoE (xIo 0 (xIo 1 (xIo 2 (xArg (xView 3) (xArg (x2 kSub (xView 3) (xC (.int 1))) xANil)))))))))
  (xSeq (xAsg (xD (x2 cIx (x2 cIx (xView 1) (xView 3)) (x2 kSub (xView 3) (xC (.int 1))))) (xGName 4))
  (xIfS (xTest (x2 kLt (x2 kMul (xC (.int 4)) (x2 kAdd (x2 kMul (x2 cIx (xView 2) (x2 kAdd (xView 3) (xC (.int 1)))) (x2 cIx (xView 2) (x2 kSub (xView 3) (xC (.int 1))))) (x2 kMul (xView 4) (xView 4)))) (x2 kMul (x2 kMul (xC (.int 3)) (x2 cIx (xView 2) (xView 3))) (x2 cIx (xView 2) (xView 3))))) (xSeq (xDrop (xD (xFz (xCall sp_exchanged xNoE (xIo 0 (xIo 1 (xIo 2 (xArg (xView 3) xANil))))))))
  (xAsg (xD (x2 kMax (xC (.int 1)) (x2 kSub (xView 3) (xC (.int 1))))) (xGName 3))) (xSeq L1_led_down
  (xAugAdd 3 (xC (.int 1))))))))
  (xRet (xMove 0)))))
theorem v_led_rest {rb : Bool} {rows0 : Mat} {n c : Nat} {Q : T → List T → Prop} {pl : Addr} (hs0 : Sq n n rows0) (n0 : 0 < n) (h4 : n ≤ 4) (hd0 : detN n rows0 ≠ 0) (hc : ∀ r ∈ rows0, SzL c r) (hcb : c ≤ 1480) (hdn : Sz 8990 (Dd rows0 n)) (q : ∀ p rows', Led n (c + 2) rows0 rows' → Q (matO p rows') [.d (matB rb rows0)]) :
    led_rest { nx := fun r => finOk [.d (matB rb rows0)] r ∧ Q (.d .none) (finF [.d (matB rb rows0)] r), rt := fun x r => finOk [.d (matB rb rows0)] r ∧ Q x (finF [.d (matB rb rows0)] r) } [some (.own pl (rows0.map fun r => T.d (rowD r))), none, none, none, none, none, none] := by
  have hb2 : 1000 < sizeLine := by decide
  have hl0 := hs0.1
  have hp0 := Dd_pos h4 hs0 hd0
  have hX : (2 : Int) * 2 ^ (2 * c + 2) < 2 ^ (2 * (c + 2)) := by
    have e : (2 : Int) ^ (2 * (c + 2)) = 2 ^ (2 * c + 2) * 4 := by rw [show 2 * (c + 2) = (2 * c + 2) + 2 by omega, Int.pow_add _ (2 * c + 2) 2]; rfl
    have : (0 : Int) < 2 ^ (2 * c + 2) := Int.pow_pos (by decide)
    omega
  have R0 : RatB n (2 ^ (2 * c + 2)) rows0 := .of h4 hs0 hp0 fun r hr => dot_le h4 (hs0.2 r hr) (hc r hr)
  refine ⟨⟨nvs_map _ _, ⟨⟩⟩, nd0, false, rows0, n, n, c, congrArg (fun x => [T.d x]) (fz_own pl rowD rows0), hs0, h4, h4, fun a ha => hp0 a (by omega), fun a ha => ?_, hc, by omega, fun ps pq f => ⟨lft_sh _ _ _ _ _ _, rfl, ?_⟩⟩
  · have h1 := rat_dsz hp0 R0 a (by omega)
    have h2 := hp0 a (by omega)
    have h3 : a * (2 * c + 2) ≤ 3 * (2 * c + 2) := Nat.mul_le_mul_right _ (by omega)
    have h5 : (2 : Nat) ^ (a * (2 * c + 2)) ≤ 2 ^ 8900 := Nat.pow_le_pow_right (by decide) (by omega)
    have h6 : ((2 ^ (a * (2 * c + 2)) : Nat) : Int) = (2 : Int) ^ (a * (2 * c + 2)) := by simp
    have h7 : (2 : Nat) ^ 8900 < 2 ^ 8999 := Nat.pow_lt_pow_right (by decide) (by decide)
    unfold Sz
    generalize (2 : Nat) ^ 8900 = A at h5 h7
    generalize (2 : Nat) ^ 8999 = B at h7
    omega
  rw [shT_G, spL_G]
  have i0 : Mid n (c + 2) 1 0 (2 ^ (2 * c + 2)) rows0 rows0 := ⟨.refl hs0, R0, fun i r _ hr => (hc r (List.mem_of_getElem? hr)).mono (by omega), fun r hr => (hc r (List.mem_of_getElem? hr)).mono (by omega), fun i hi j hj => by omega, fun j hj => by omega, fun j hj hj2 => by omega⟩
  refine ⟨fun m r => ∃ rows k p ps pq f L l1 l2 at_ s4 s5, r = [some (.own p L), some (.own ps l1), some (.own pq l2), some (.d (.int at_)), s4, s5, none] ∧ L = (rows.map fun r => T.d (rowD r)) ∧ l1 = shG f (lam rows) n ∧ l2 = spG (Dd rows) (n + 1) ∧ at_ = (k : Nat) ∧ Mid n (c + 2) k 0 (2 ^ (2 * c + 2)) rows0 rows ∧ Dd rows n = Dd rows0 n ∧ 1 ≤ k ∧ k ≤ n ∧ m = (2 * pot n rows + (n - k : Nat)).toNat, ⟨_, rows0, 1, pl, ps, pq, f, _, _, _, _, _, _, rfl, rfl, rfl, rfl, rfl, i0, rfl, Nat.le_refl _, n0, rfl⟩, fun m r hW => ?_⟩
  obtain ⟨rows, k, p, ps, pq, f, L, l1, l2, at_, s4, s5, rfl, rfl, rfl, rfl, rfl, hI, hD, k1, kn, rfl⟩ := hW
  have sq := hI.same.sq
  have hl := sq.1
  have lm : (rows.map fun r => T.d (rowD r)).length = rows.length := List.length_map ..
  have hd := hI.pos h4 hd0
  have st : ∀ {rows : Mat} {k t : Nat}, Mid n (c + 2) k t (2 ^ (2 * c + 2)) rows0 rows → Dd rows n = Dd rows0 n → k ≤ n → t ≤ k → StOk n (33 * (c + 2) + 96) rows := fun {rows} {k} {t} hI hD kn ht => by
    have hd := hI.pos h4 hd0
    refine ⟨hI.same.sq, h4, hd, fun a ha => ?_, fun r hr => (hI.all r hr).mono ?_, by omega⟩
    · by_cases e : a = n
      · rw [e, hD]; exact hdn
      · have h1 := rat_dsz hd hI.rat a (by omega)
        have h2 := hd a (by omega)
        have h3 : a * (2 * c + 2) ≤ 3 * (2 * c + 2) := Nat.mul_le_mul_right _ (by omega)
        have h5 : (2 : Nat) ^ (a * (2 * c + 2)) ≤ 2 ^ 8900 := Nat.pow_le_pow_right (by decide) (by omega)
        have h6 : ((2 ^ (a * (2 * c + 2)) : Nat) : Int) = (2 : Int) ^ (a * (2 * c + 2)) := by simp
        have h7 : (2 : Nat) ^ 8900 < 2 ^ 8990 := Nat.pow_lt_pow_right (by decide) (by decide)
        unfold Sz
        generalize (2 : Nat) ^ 8900 = A at h5 h7
        generalize (2 : Nat) ^ 8990 = B at h7
        omega
    · have : (n - k + t) * (8 * (c + 2) + 24) ≤ 4 * (8 * (c + 2) + 24) := Nat.mul_le_mul_right _ (by omega)
      omega
  refine ⟨fun hc1 => ?_, fun hc1 => ?_⟩
  · have hk : k < n := by
      have : decide (((k : Nat) : Int) < ((rows.map fun r => T.d (rowD r)).length : Int)) = true := hc1
      have := of_decide_eq_true this
      omega
    obtain ⟨j, rfl⟩ : ∃ j, k = j + 1 := ⟨k - 1, by omega⟩
    have ej : ((j + 1 : Nat) : Int) - 1 = (j : Nat) := by omega
    have ej2 : ((j + 1 : Nat) : Int) + 1 = ((j + 2 : Nat) : Int) := by omega
    obtain ⟨U, hU⟩ : ∃ U, rows[j + 1]? = some U := ⟨_, List.getElem?_eq_getElem (by omega)⟩
    obtain ⟨V, hV⟩ : ∃ V, rows[j]? = some V := ⟨_, List.getElem?_eq_getElem (by omega)⟩
    obtain ⟨hI1, hp1⟩ := hI.step h4 hs0 hd0 hk (show j + 0 + 1 = j + 1 by omega) hU hV
    have hD1 : Dd (rows.set (j + 1) (vAdd U (-manyOf rows (j + 1) j) V)) n = Dd rows0 n := by rw [Dd_add h4 sq (by omega) hU hV (Nat.le_refl _)]; exact hD
    refine ⟨nd3, p, ps, pq, f, rows, n, 33 * (c + 2) + 96, j + 1, j, U, V, _, _, rfl, rfl, ej, st hI hD (by omega) (by omega), by omega, hk, hU, hV, ?_⟩
    generalize hR1 : rows.set (j + 1) (vAdd U (-manyOf rows (j + 1) j) V) = rows1 at hI1 hp1 hD1
    have hd1 := hI1.pos h4 hd0
    have S1 := st hI1 hD1 (by omega) (by omega)
    have sq1 := hI1.same.sq
    have hl1 := sq1.1
    have zl := S1.lamSz (i := j + 1) (j := j) hk (by omega)
    have zd : ∀ {a}, a ≤ n → Sz 480021 (Dd rows1 a) := fun ha => S1.ddSz ha
    refine ⟨rfl, _, shG_get rfl hk, rfl, _, rowG_get ej (by omega), ?_⟩
    refine ⟨rfl, _, spG_get ej2 (by omega), rfl, _, spG_get ej (by omega), mulOk (zd (by omega)) (zd (by omega)) (by decide), mulOk zl zl (by decide), mulOkL (by decide) (by decide), rfl, _, spG_get rfl (by omega), mulOkL (by decide) (by decide), rfl, _, spG_get rfl (by omega), mulOk (((show Sz 2 3 by unfold Sz; decide).mul (zd (a := j + 1) (by omega)))) (zd (by omega)) (by decide), fun hc2 => ?_, fun hc2 => ?_⟩
    · have hst : standB rows1 j = false := by
        have := of_decide_eq_true hc2
        unfold standB
        exact decide_eq_false (by omega)
      obtain ⟨U1, hU1⟩ : ∃ U, rows1[j]? = some U := ⟨_, List.getElem?_eq_getElem (by omega)⟩
      obtain ⟨V1, hV1⟩ : ∃ V, rows1[j + 1]? = some V := ⟨_, List.getElem?_eq_getElem (by omega)⟩
      obtain ⟨hI2, hp2⟩ := hI1.swapped h4 hs0 hd0 hX hk hU1 hV1 hst (max 1 j) rfl
      have hD2 : Dd ((rows1.set j V1).set (j + 1) U1) n = Dd rows0 n := by rw [Dd_swap h4 sq1 hU1 hV1 (Nat.le_refl _) (by omega)]; exact hD1
      have hd2 := hI2.pos h4 hd0
      have p0 := pot_nonneg (n := n) (rows := (rows1.set j V1).set (j + 1) U1) fun a ha => Int.le_of_lt (hd2 a (by omega))
      refine ⟨nd3, p, ps, pq, f, rows1, n, _, j, U1, V1, _, rfl, rfl, S1, hk, hU1, hV1, ?_⟩
      refine ⟨_, ?_, (rows1.set j V1).set (j + 1) U1, max 1 j, p, ps, pq, f, _, _, _, _, _, _, rfl, rfl, rfl, rfl, ?_, hI2, hD2, by omega, by omega, rfl⟩
      · omega
      · omega
    · have hst : standB rows1 j = true := by
        have := of_decide_eq_false hc2
        unfold standB
        exact decide_eq_true (by omega)
      refine ⟨rfl, by omega, fun t r => ∃ rows2 L l1 l2 s5, r = [some (.own p L), some (.own ps l1), some (.own pq l2), some (.d (.int (j + 1 : Nat))), some (.d (.int (lam rows1 (j + 1) j))), s5, none] ∧ L = (rows2.map fun r => T.d (rowD r)) ∧ l1 = shG f (lam rows2) n ∧ l2 = spG (Dd rows2) (n + 1) ∧ Mid n (c + 2) (j + 1) (t + 1) (2 ^ (2 * c + 2)) rows0 rows2 ∧ pot n rows2 = pot n rows1 ∧ Dd rows2 n = Dd rows0 n ∧ standB rows2 j = true ∧ t ≤ j, ⟨rows1, _, _, _, _, rfl, rfl, rfl, rfl, hI1, rfl, hD1, hst, by omega⟩, fun t x r hx hW => ?_, fun r hW => ?_⟩
      · obtain ⟨rows2, L, l1, l2, s5, rfl, rfl, rfl, rfl, hI2, hp2, hD2, hst2, ht⟩ := hW
        obtain ⟨ht1, rfl⟩ := rangeD_get hx
        have ht2 : t < j := by omega
        have sq2 := hI2.same.sq
        have hl2 := sq2.1
        obtain ⟨U2, hU2⟩ : ∃ U, rows2[j + 1]? = some U := ⟨_, List.getElem?_eq_getElem (by omega)⟩
        obtain ⟨V2, hV2⟩ : ∃ V, rows2[j - 1 - t]? = some V := ⟨_, List.getElem?_eq_getElem (by omega)⟩
        obtain ⟨hI3, hp3⟩ := hI2.step h4 hs0 hd0 hk (show j - 1 - t + (t + 1) + 1 = j + 1 by omega) hU2 hV2
        have hd2 := hI2.pos h4 hd0
        have et : ((j + 1 : Nat) : Int) - 2 - (t : Nat) = ((j - 1 - t : Nat) : Int) := by omega
        refine ⟨nd3, p, ps, pq, f, rows2, n, _, j + 1, j - 1 - t, U2, V2, _, _, rfl, rfl, et, st hI2 hD2 (by omega) (by omega), by omega, hk, hU2, hV2, ?_⟩
        have hD3 : Dd (rows2.set (j + 1) (vAdd U2 (-manyOf rows2 (j + 1) (j - 1 - t)) V2)) n = Dd rows0 n := by rw [Dd_add h4 sq2 (by omega) hU2 hV2 (Nat.le_refl _)]; exact hD2
        refine ⟨_, _, _, _, _, rfl, rfl, rfl, rfl, hI3, hp3.trans hp2, hD3, ?_, by omega⟩
        have kp : ∀ i, i < j + 1 → (rows2.set (j + 1) (vAdd U2 (-manyOf rows2 (j + 1) (j - 1 - t)) V2))[i]? = rows2[i]? := fun i hi => by rw [List.getElem?_set_ne (by omega)]
        have e3 : lam (rows2.set (j + 1) (vAdd U2 (-manyOf rows2 (j + 1) (j - 1 - t)) V2)) (j + 1) j = lam rows2 (j + 1) j := by
          rw [lam_cut h4 sq2 (show j - 1 - t < j + 1 by omega) (by omega) hU2 hV2, lam_zero (i := j - 1 - t) (j := j) h4 sq2 (by omega) (by omega), Int.mul_zero, Int.sub_zero]
        unfold standB at hst2 ⊢
        rw [Dd_add h4 sq2 (by omega) hU2 hV2 (by omega), Dd_add h4 sq2 (by omega) hU2 hV2 (by omega), Dd_add h4 sq2 (by omega) hU2 hV2 (by omega), e3]
        exact hst2
      · obtain ⟨rows2, L, l1, l2, s5, rfl, rfl, rfl, rfl, hI2, hp2, hD2, hst2, ht⟩ := hW
        rw [rangeD_len] at hI2
        have e : (((j + 1 : Nat) : Int) - 2 - (-1)).toNat = j := by omega
        rw [e] at hI2
        have on := hI2.on h4 hd0 hX hk (Nat.le_refl _) fun i hi => by obtain rfl : i = j := (by omega); exact hst2
        have hd2 := on.pos h4 hd0
        have p0 := pot_nonneg (n := n) (rows := rows2) fun a ha => Int.le_of_lt (hd2 a (by omega))
        refine ⟨⟨⟩, _, ?_, rows2, j + 2, p, ps, pq, f, _, _, _, _, _, _, rfl, rfl, rfl, rfl, (show ((j + 1 : Nat) : Int) + 1 = ((j + 2 : Nat) : Int) by omega), on, hD2, by omega, by omega, rfl⟩
        omega
  · have hk : k = n := by
      have : decide (((k : Nat) : Int) < ((rows.map fun r => T.d (rowD r)).length : Int)) = false := hc1
      have := of_decide_eq_false this
      omega
    subst hk
    refine ⟨⟨⟩, q p rows ⟨hI.same, hI.sh, hI.lo, fun r hr => ?_⟩⟩
    obtain ⟨i, hi⟩ := List.getElem?_of_mem hr
    exact hI.szo i r (by have := (List.getElem?_eq_some_iff.mp hi).1; omega) hi
theorem v_led_down (ts Q E) (h : sp_led_down ts Q E) : body_led_down { nx := fun r => finOk ts r ∧ Q (.d .none) (finF ts r), rt := fun x r => finOk ts r ∧ Q x (finF ts r) } (start3 N_led_down ts) := by
  obtain ⟨rb, rows0, n, c, rfl, hs0, n0, h4, hd0, hc, hcb, hdn, q⟩ := h
  have hb2 : 1000 < sizeLine := by decide
  have hl0 := hs0.1
  have rest := fun pl => v_led_rest (rb := rb) (Q := Q) (pl := pl) hs0 n0 h4 hd0 hc hcb hdn q
  cases rb with
  | true =>
    refine lc_gen (rows0.map rowD) (by simp) (by rw [List.length_map]; omega) (fun r0 h0' i x y hx hy R S ku => ?_) fun r0 h0' pl => ?_
    · simp only [wp, puts, List.set_cons_succ, List.set_cons_zero] at h0'; subst h0'
      obtain ⟨u, hu, rfl⟩ := get_fun hx
      obtain rfl := get_map2 hy hu
      refine ⟨fun _ p => ⟨nvs_d _, ?_⟩, nofun⟩
      rw [fz_outs]
      exact ku _ rfl
    · simp only [wp, puts, List.set_cons_succ, List.set_cons_zero] at h0'; subst h0'
      rw [show (rows0.map rowD).map T.d = rows0.map (fun r => T.d (rowD r)) by rw [List.map_map]; rfl]
      exact rest pl
  | false =>
    refine lc_gen (rows0.map rowD) (by simp) (by rw [List.length_map]; omega) (fun r0 h0' i x y hx hy R S ku => ?_) fun r0 h0' pl => ?_
    · simp only [wp, puts, List.set_cons_succ, List.set_cons_zero] at h0'; subst h0'
      obtain ⟨u, hu, rfl⟩ := get_fun hx
      obtain rfl := get_map2 hy hu
      refine ⟨fun _ p => ⟨nvs_d _, ?_⟩, nofun⟩
      rw [fz_outs]
      exact ku _ rfl
    · simp only [wp, puts, List.set_cons_succ, List.set_cons_zero] at h0'; subst h0'
      rw [show (rows0.map rowD).map T.d = rows0.map (fun r => T.d (rowD r)) by rw [List.map_map]; rfl]
      exact rest pl
end L3
set_option pp.maxSteps 600
namespace L3
open PySem PySem.Spec PyProof.Rows L2
local macro_rules | `(tactic| wtm_at "sh") => `(tactic| conv => whnf)
/-! ## determinants of lists of rows -/
abbrev matL (rows : Mat) : PyData := .list (rows.map rowD)
theorem nest_matL {rows : Mat} (h : rows.length < sizeLine) (k : ∀ r ∈ rows, r.length < sizeLine) : Nest 8 (matL rows) := ⟨by rw [List.length_map]; exact h, fun x hx => by
  obtain ⟨r, hr, rfl⟩ := List.mem_map.mp hx
  exact ⟨by rw [List.length_map]; exact k r hr, fun y hy => by obtain ⟨z, _, rfl⟩ := List.mem_map.mp hy; exact ⟨⟩⟩⟩
theorem sgn_of (i : Nat) : 1 - 2 * ((i : Int) % 2) = sg i := by
  unfold sg
  split <;> omega
def N_determinant : List Str := ["rows", "found", "place", "number", "rest", "row"]
def body_determinant (sp_determinant : Sp3) : TS3 := (xSeq (xIfS (xTest (x2 kEq (xView 0) (xFz (xLst xNil)))) (xRet (xD (xC (.int 1)))) xNext)
  (xSeq (xAsg (xD (xC (.int 0))) (xGName 1))
  (xSeq (xFor (xEnumX (x2 cIx (xView 0) (xC (.int 0)))) (xGTup 2 (xGCons (xGName 2) (xGCons (xGName 3) xGNil))) (xIfS (xTest (x2 kNeI (xView 3) (xC (.int 0)))) (xSeq (xAsg (xLc (xSeqI (xFz (xSl (xView 0) (xSome (xC (.int 1))) xNo))) (xGName 5) xYes (xD (xFz (x2 cAdd (xFz (xSl (xView 5) xNo (xSome (xView 2)))) (xFz (xSl (xView 5) (xSome (x2 kAdd (xView 2) (xC (.int 1)))) xNo))))) [5]) (xGName 4))
  (xFzS 4 (xAugAdd 1 (x2 kMul (x2 kMul (xView 3) (xFz (xCall sp_determinant xNoE (xArg (xView 4) xANil)))) (x2 kSub (xC (.int 1)) (x2 kMul (xC (.int 2)) (x2 kMod (xView 2) (xC (.int 2))))))))) xNext))
  (xRet (xMove 1)))))
def sp_determinant (f : Nat) : Sp3 := fun ts Q _ => ∃ rows n b, ts = [.d (matL rows)] ∧ Sq n n rows ∧ n < f ∧ n ≤ 4 ∧ (∀ r ∈ rows, SzL b r) ∧ b ≤ 20000 ∧ Q (.d (.int (detN n rows))) ts
theorem z0_determinant {ts : List T} {Q : T → List T → Prop} {E : Addr → List T → Prop} (h : sp_determinant 0 ts Q E) : False := by
  obtain ⟨_, _, _, _, _, h, _⟩ := h
  omega
theorem v_determinant (f) (ts Q E) (h : sp_determinant (f + 1) ts Q E) : body_determinant (sp_determinant f) { nx := fun r => finOk ts r ∧ Q (.d .none) (finF ts r), rt := fun x r => finOk ts r ∧ Q x (finF ts r) } (start3 N_determinant ts) := by
  obtain ⟨rows, n, b, rfl, hs, hf, h4, hz, hb, q⟩ := h
  have hb2 : 1000 < sizeLine := by decide
  have hl := hs.1
  refine ⟨sz 0, fun p0 => ⟨rfl, nest_shaped (nest_matL (by omega) fun r hr => by rw [hs.2 r hr]; omega) (by decide), shp_nilL, fun hc => ?_, fun hc => ?_⟩⟩
  · have e : rows = [] := of_decide_eq_true ((eqv_map_nil rowD rows).symm.trans hc)
    subst e
    have e : n = 0 := hl.symm
    subst e
    exact ⟨⟨⟩, q⟩
  · have e : rows ≠ [] := of_decide_eq_false ((eqv_map_nil rowD rows).symm.trans hc)
    match rows, n, hs, hl, e with
    | r :: rest, m + 1, hs, hl, _ =>
    clear e
    obtain ⟨hr, ht⟩ := hs.tail
    have hl2 := ht.1
    have ec : cutL (List.map rowD (r :: rest)) (some 1) none = rest.map rowD := by rw [cut_one (by simp)]; rfl
    refine ⟨_, rfl, _, rfl, fun i s => ∃ c s2 s3 s4, s = [some (.d (matL (r :: rest))), some (.d (.int c)), s2, s3, s4, none] ∧ c = sumR i (fun k => r.getD k 0 * sg k * detN m (minor k rest)) ∧ i ≤ m + 1, ⟨_, _, _, _, rfl, rfl, by omega⟩, fun i x s hx hW => ?_, fun s hW => ?_⟩
    · obtain ⟨c, s2, s3, s4, rfl, rfl, hi⟩ := hW
      obtain ⟨u, hu, rfl⟩ := enum_get hx
      have hi2 : i < m + 1 := by have := (List.getElem?_eq_some_iff.mp hu).1; omega
      have eu : r.getD i 0 = u := by rw [List.getD_eq_getElem?_getD, hu]; rfl
      refine ⟨rfl, fun hc => ?_, fun hc => ?_⟩
      · refine fun p1 => ⟨nvs_d _, ?_⟩
        rw [fz_outs, show cutL (List.map rowD (r :: rest)) (some 1) none = rest.map rowD from ec]
        refine lc_gen ((minor i rest).map rowD) (by rw [List.length_map, List.length_map]; unfold minor; rw [List.length_map]) (by rw [List.length_map]; omega) (fun r0 h0 j x y hx hy R S ku => ?_) fun r0 h0 pn => ?_
        · simp only [wp, puts, List.set_cons_succ, List.set_cons_zero] at h0; subst h0
          obtain ⟨v, hv, rfl⟩ := get_fun hx
          have lv := ht.2 v (List.mem_of_getElem? hv)
          obtain rfl := get_map2 (f := rowD) hy (show (minor i rest)[j]? = some (v.eraseIdx i) by unfold minor; rw [List.getElem?_map, hv]; rfl)
          have e := erase_cut (r := v) (k := i) (by omega)
          have c1 : (cutL (v.map PyData.int) none (some (i : Int))).length + (cutL (v.map PyData.int) (some ((i : Int) + 1)) none).length ≤ 1000 := by
            rw [← List.length_append, e, List.length_map, List.length_eraseIdx]
            split <;> omega
          refine ⟨fun _ p2 => ⟨nvs_d _, fun p3 => ⟨nvs_d _, ?_⟩⟩, nofun⟩
          rw [fz_outs, fz_outs]
          refine ⟨Nat.le_trans c1 (by decide), fun p4 => ?_⟩
          rw [← List.map_append]
          refine ⟨nvs_d _, ?_⟩
          rw [fz_outs, e]
          exact ku _ rfl
        · simp only [wp, puts, List.set_cons_succ, List.set_cons_zero] at h0; subst h0
          refine ⟨nvs_d _, ?_⟩
          rw [fz_outs]
          have szu : Sz b u := by rw [← eu]; exact hz r (by simp) i
          have zl : ∀ x ∈ minor i rest, SzL b x := fun x hx => by
            obtain ⟨y, hy, rfl⟩ := List.mem_map.mp hx
            exact (hz y (List.mem_cons_of_mem _ hy)).erase
          have sd := det_Sz (by omega) (ht.minor (k := i) hi2) zl
          have ss : Sz 1 (sg i) := by unfold Sz; rw [sg_abs]; decide
          have hm : m * (b + 2) ≤ 3 * (20000 + 2) := Nat.mul_le_mul (by omega) (by omega)
          refine ⟨nd0, minor i rest, m, b, rfl, ht.minor hi2, by omega, by omega, zl, hb, mulOk szu sd (by omega), pz, mulOkL (by decide) (by decide), mulOk (m := 2) (szu.mul sd) (by unfold Sz; have := em_b (i : Nat) 2; omega) (by omega), ⟨⟩, _, _, _, _, rfl, ?_, by omega⟩
          show _ = sumR i _ + r.getD i 0 * sg i * _
          rw [eu, ← sgn_of i]
          show _ + u * detN m (minor i rest) * (1 - 2 * ((i : Int) % 2)) = _
          rw [Int.mul_assoc u, Int.mul_comm (detN m _), ← Int.mul_assoc]
      · have e0 : u = 0 := by simpa using hc
        refine ⟨_, _, _, _, rfl, ?_, by omega⟩
        show _ = sumR i _ + r.getD i 0 * sg i * _
        rw [eu, e0]
        simp
    · obtain ⟨c, s2, s3, s4, rfl, rfl, hi⟩ := hW
      rw [enumD_len, List.length_map, hr]
      exact ⟨⟨⟩, q⟩
end L3
set_option pp.maxSteps 600
namespace L3
open PySem PySem.Spec PyProof.Rows L2
local macro_rules | `(tactic| wtm_at "sh") => `(tactic| conv => whnf)
/-! ## rows turned back: what tells a row's multiple -/
def backR (n : Nat) (rows : Mat) (i : Nat) : List Int := (List.range n).map fun k => detN (n - 1) (minor k (rows.eraseIdx i)) * sg (i + k)
theorem backR_len (n : Nat) (rows : Mat) (i : Nat) : (backR n rows i).length = n := by unfold backR; rw [List.length_map, List.length_range]
theorem backR_at {n i k : Nat} {rows : Mat} (h : k < n) : (backR n rows i).getD k 0 = detN (n - 1) (minor k (rows.eraseIdx i)) * sg (i + k) := by
  unfold backR
  rw [List.getD_eq_getElem?_getD, List.getElem?_map, List.getElem?_range h]; rfl
theorem dot_sumR : ∀ (n : Nat) (x y : List Int), x.length = n → y.length = n → dot x y = sumR n fun k => x.getD k 0 * y.getD k 0
  | 0, [], [], _, _ => rfl
  | n + 1, x, y, hx, hy => by
    have go : ∀ (m : Nat) (x y : List Int), m = x.length → x.length = y.length → ∀ a b : Int, dot (x ++ [a]) (y ++ [b]) = dot x y + a * b := by
      intro m x y _ h a b
      induction x generalizing y m with
      | nil => cases y with | nil => simp [dot] | cons _ _ => cases h
      | cons p x ih => cases y with
        | nil => cases h
        | cons q y =>
          show p * q + dot (x ++ [a]) (y ++ [b]) = p * q + dot x y + a * b
          rw [ih _ y rfl (Nat.succ.inj h)]; omega
    have ex : x = x.take n ++ [x.getD n 0] := by
      refine List.ext_getElem? fun c => ?_
      rw [List.getElem?_append, List.length_take]
      by_cases hc : c < n
      · rw [if_pos (by omega), List.getElem?_take, if_pos hc]
      · by_cases e : c = n
        · subst e
          rw [if_neg (by omega), show c - min c x.length = 0 by omega, List.getD_eq_getElem?_getD, List.getElem?_eq_getElem (by omega)]; rfl
        · rw [if_neg (by omega), List.getElem?_eq_none (by omega), List.getElem?_eq_none (by simp; omega)]
    have ey : y = y.take n ++ [y.getD n 0] := by
      refine List.ext_getElem? fun c => ?_
      rw [List.getElem?_append, List.length_take]
      by_cases hc : c < n
      · rw [if_pos (by omega), List.getElem?_take, if_pos hc]
      · by_cases e : c = n
        · subst e
          rw [if_neg (by omega), show c - min c y.length = 0 by omega, List.getD_eq_getElem?_getD, List.getElem?_eq_getElem (by omega)]; rfl
        · rw [if_neg (by omega), List.getElem?_eq_none (by omega), List.getElem?_eq_none (by simp; omega)]
    have h := go _ (x.take n) (y.take n) rfl (by rw [List.length_take, List.length_take]; omega) (x.getD n 0) (y.getD n 0)
    rw [← ex, ← ey] at h
    rw [h, dot_sumR n (x.take n) (y.take n) (by rw [List.length_take]; omega) (by rw [List.length_take]; omega)]
    show _ = sumR n _ + _
    congr 1
    refine sumR_congr fun k hk => ?_
    rw [List.getD_eq_getElem?_getD, List.getD_eq_getElem?_getD, List.getElem?_take, if_pos hk, List.getElem?_take, if_pos hk, List.getD_eq_getElem?_getD, List.getD_eq_getElem?_getD]
theorem sg_succ (k : Nat) : sg (k + 1) = - sg k := by
  unfold sg
  by_cases h : k % 2 = 0
  · rw [if_neg (by omega), if_pos h]
  · rw [if_pos (by omega), if_neg h]; rfl
theorem erase_set_next {rows : Mat} {i : Nat} {U : List Int} (hU : rows[i]? = some U) (hi : i + 1 < rows.length) : (rows.set (i + 1) U).eraseIdx i = rows.eraseIdx (i + 1) := by
  refine List.ext_getElem? fun c => ?_
  rw [List.getElem?_eraseIdx, List.getElem?_eraseIdx]
  by_cases h1 : c < i
  · rw [if_pos h1, if_pos (by omega), List.getElem?_set_ne (by omega)]
  · rw [if_neg h1]
    by_cases h2 : c = i
    · subst h2
      rw [List.getElem?_set_self hi, if_pos (by omega), hU]
    · rw [List.getElem?_set_ne (by omega), if_neg (by omega)]
theorem back_set : ∀ (i n : Nat) (rows : Mat) (v : List Int), n ≤ 4 → Sq n n rows → i < n → v.length = n → detN n (rows.set i v) = sumR n fun k => (detN (n - 1) (minor k (rows.eraseIdx i)) * sg (i + k)) * v.getD k 0
  | 0, n, rows, v, h4, hs, hi, hv => by
    match rows, n, hs, hi with
    | [], n, hs, hi => exact absurd hs.1 (by simp; omega)
    | r :: rest, m + 1, hs, hi =>
      show sumR (m + 1) _ = sumR (m + 1) _
      refine sumR_congr fun k hk => ?_
      rw [Nat.zero_add]
      show v.getD k 0 * sg k * detN m (minor k rest) = detN m (minor k rest) * sg k * v.getD k 0
      grind
  | i + 1, n, rows, v, h4, hs, hi, hv => by
    have hl := hs.1
    obtain ⟨U, hU⟩ : ∃ U, rows[i]? = some U := ⟨_, List.getElem?_eq_getElem (by omega)⟩
    have lU := hs.2 U (List.mem_of_getElem? hU)
    have hs' : Sq n n (rows.set (i + 1) U) := hs.set lU
    have ih := back_set i n (rows.set (i + 1) U) v h4 hs' (by omega) hv
    rw [erase_set_next hU (by omega)] at ih
    have sw := det_swap (i := i) (j := i + 1) (x := U) (y := v) h4 (hs.set (i := i + 1) hv) (by omega) (by rw [List.getElem?_set_ne (by omega)]; exact hU) (List.getElem?_set_self (by omega))
    have e : ((rows.set (i + 1) v).set i v).set (i + 1) U = (rows.set (i + 1) U).set i v := by
      rw [List.set_comm _ _ (show i ≠ i + 1 by omega), List.set_set]
    rw [e, ih] at sw
    have neg : ∀ m (f : Nat → Int), - sumR m f = sumR m fun k => - f k := by
      intro m f
      induction m with
      | zero => rfl
      | succ m ih => show -(sumR m f + f m) = sumR m _ + - f m; rw [← ih]; omega
    have e2 : detN n (rows.set (i + 1) v) = - sumR n fun k => (detN (n - 1) (minor k (rows.eraseIdx (i + 1))) * sg (i + k)) * v.getD k 0 := by omega
    rw [e2, neg]
    refine sumR_congr fun k hk => ?_
    rw [show i + 1 + k = (i + k) + 1 by omega, sg_succ]
    grind
theorem back_dot {n i : Nat} {rows : Mat} {v : List Int} (h4 : n ≤ 4) (hs : Sq n n rows) (hi : i < n) (hv : v.length = n) : dot (backR n rows i) v = detN n (rows.set i v) := by
  rw [back_set i n rows v h4 hs hi hv, dot_sumR n _ _ (backR_len ..) hv]
  exact sumR_congr fun k hk => by rw [backR_at hk]
theorem Sq.erase {n i : Nat} {rows : Mat} (hs : Sq n n rows) (hi : i < n) : Sq (n - 1) n (rows.eraseIdx i) := ⟨by rw [List.length_eraseIdx, hs.1, if_pos hi], fun r hr => hs.2 r (List.mem_of_mem_eraseIdx hr)⟩
theorem sq_restR {n i k : Nat} {rows : Mat} (hs : Sq n n rows) (hi : i < n) (hk : k < n) : Sq (n - 1) (n - 1) (minor k (rows.eraseIdx i)) := by
  obtain ⟨m, rfl⟩ : ∃ m, n = m + 1 := ⟨n - 1, by omega⟩
  exact (hs.erase hi).minor hk
theorem sz_restR {i k b : Nat} {rows : Mat} (hz : ∀ r ∈ rows, SzL b r) : ∀ r ∈ minor k (rows.eraseIdx i), SzL b r := fun r hr => by
  obtain ⟨y, hy, rfl⟩ := List.mem_map.mp hr
  exact (hz y (List.mem_of_mem_eraseIdx hy)).erase
theorem backR_sz {n i b : Nat} {rows : Mat} (h4 : n ≤ 4) (hs : Sq n n rows) (hi : i < n) (hz : ∀ r ∈ rows, SzL b r) : SzL (3 * (b + 2) + 1) (backR n rows i) := SzL.of fun x hx => by
  unfold backR at hx
  obtain ⟨k, hk, rfl⟩ := List.mem_map.mp hx
  have hk := List.mem_range.mp hk
  have d := det_Sz (by omega) (sq_restR hs hi hk) (sz_restR (i := i) (k := k) hz)
  have : (n - 1) * (b + 2) ≤ 3 * (b + 2) := Nat.mul_le_mul_right _ (by omega)
  refine (d.mono (m := 3 * (b + 2) + 1) (by omega)).le ?_
  rw [Int.natAbs_mul, sg_abs, Nat.mul_one]; exact Nat.le_refl _
theorem enum_zip (rows : Mat) : enumD (rows.map rowD) = (rows.zipIdx).map fun u => PyData.tuple [.int (u.2 : Nat), rowD u.1] := by
  refine List.ext_getElem? fun c => ?_
  unfold enumD
  rw [List.getElem?_zipWith, List.getElem?_map, List.getElem?_map, List.getElem?_zipIdx, List.length_map]
  by_cases h : c < rows.length
  · rw [List.getElem?_range h, List.getElem?_eq_getElem h, Nat.zero_add]; rfl
  · rw [List.getElem?_eq_none (l := List.range rows.length) (by rw [List.length_range]; omega), List.getElem?_eq_none (l := rows) (by omega)]; rfl
theorem zip_filt {α : Type} : ∀ (l : List α) (s i : Nat), ((l.zipIdx s).filter fun u => decide (((u.2 : Nat) : Int) ≠ ((s + i : Nat) : Int))).map (·.1) = l.eraseIdx i
  | [], s, i => rfl
  | x :: l, s, 0 => by
    have all : ∀ (l : List α) (s t : Nat), t < s → ((l.zipIdx s).filter fun u => decide (((u.2 : Nat) : Int) ≠ ((t : Nat) : Int))).map (·.1) = l := by
      intro l
      induction l with
      | nil => intro s t _; rfl
      | cons y l ih =>
        intro s t h
        rw [List.zipIdx_cons, List.filter_cons, if_pos (by simp; omega), List.map_cons, ih _ _ (by omega)]
    rw [List.zipIdx_cons, List.filter_cons, if_neg (by simp)]
    exact all l (s + 1) (s + 0) (by omega)
  | x :: l, s, i + 1 => by
    rw [List.zipIdx_cons, List.filter_cons, if_pos (by simp; omega), List.map_cons]
    show x :: _ = x :: l.eraseIdx i
    rw [← zip_filt l (s + 1) i, show s + 1 + i = s + (i + 1) by omega]
theorem ne_int {a : Int} {i : Nat} {v : Bool} (hc : (fun b => !b) (PyData.eqv (.int a) (.int (0 + (i : Int)))) = v) : decide (a ≠ ((0 + i : Nat) : Int)) = v := by
  rw [← hc, show PyData.eqv (.int a) (.int (0 + (i : Int))) = decide (a = 0 + (i : Int)) from rfl, decide_not]
  show (!decide _) = (!decide _)
  rw [show ((0 + i : Nat) : Int) = 0 + (i : Int) by omega]
def L1_turned_back : TS3 := (xFor (xR1 (x1 cLen (xView 0))) (xGName 4) (xSeq (xAsg (xLc (xEnumX (xView 0)) (xGTup 2 (xGCons (xGName 6) (xGCons (xGName 7) xGNil))) (xTest (x2 kNe (xView 6) (xView 2))) (xD (xFz (x2 cAdd (xFz (xSl (xView 7) xNo (xSome (xView 4)))) (xFz (xSl (xView 7) (xSome (x2 kAdd (xView 4) (xC (.int 1)))) xNo))))) [6, 7]) (xGName 5))
  (xFzS 5 (xDrop (xD (xFz (xApp 3 (xD (x2 kMul (xFz (xCall (sp_determinant 8) xNoE (xArg (xView 5) xANil))) (x2 kSub (xC (.int 1)) (x2 kMul (xC (.int 2)) (x2 kMod (xFz (x2 cAdd (xView 2) (xView 4))) (xC (.int 2))))))))))))))
def L2_turned_back : TS3 := (xFor (xR1 (x1 cLen (xView 0))) (xGName 2) (xSeq (xAsg (xLst xNil) (xGName 3))
  (xSeq L1_turned_back
  (xDrop (xD (xFz (xApp 1 (xD (xFz (xMove 3))))))))))
def N_turned_back : List Str := ["rows", "found", "at", "own", "place", "rest", "k", "row"]
def body_turned_back : TS3 := (xSeq (xAsg (xLst xNil) (xGName 1))
  (xSeq L2_turned_back
  (xRet (xMove 1))))
def sp_turned_back : Sp3 := fun ts Q _ => ∃ rows n b, ts = [.d (matL rows)] ∧ Sq n n rows ∧ n ≤ 4 ∧ (∀ r ∈ rows, SzL b r) ∧ b ≤ 20000 ∧ ∀ p, Q (.own p ((List.range n).map fun i => T.d (rowD (backR n rows i)))) ts
theorem v_turned_back (ts Q E) (h : sp_turned_back ts Q E) : body_turned_back { nx := fun r => finOk ts r ∧ Q (.d .none) (finF ts r), rt := fun x r => finOk ts r ∧ Q x (finF ts r) } (start3 N_turned_back ts) := by
  obtain ⟨rows, n, b, rfl, hs, h4, hz, hb, q⟩ := h
  have hb2 : 1000 < sizeLine := by decide
  have hl := hs.1
  have ln : (rows.map rowD).length = rows.length := List.length_map ..
  refine ⟨sz 0, fun p0 => ⟨by show ((rows.map rowD).length : Int) < 2 ^ 62; omega, by show -(2 ^ 62) ≤ ((rows.map rowD).length : Int); omega, fun i r => ∃ L s2 s3 s4 s5, r = [some (.d (matL rows)), some (.own p0 L), s2, s3, s4, s5, none, none] ∧ L = ((List.range i).map fun i => T.d (rowD (backR n rows i))) ∧ i ≤ n, ⟨_, _, _, _, _, rfl, rfl, by omega⟩, fun i x r hx hW => ?_, fun r hW => ?_⟩⟩
  · obtain ⟨L, s2, s3, s4, s5, rfl, rfl, hi⟩ := hW
    obtain ⟨hi1, rfl⟩ := rangeI_get hx
    have hi2 : i < n := by
      have : i < ((rows.map rowD).length : Int).toNat := hi1
      omega
    have ei : (0 : Int) + (i : Nat) = ((i : Nat) : Int) := by omega
    refine ⟨sz 0, fun p1 => ⟨by show ((rows.map rowD).length : Int) < 2 ^ 62; omega, by show -(2 ^ 62) ≤ ((rows.map rowD).length : Int); omega, fun k r => ∃ L s4 s5, r = [some (.d (matL rows)), some (.own p0 ((List.range i).map fun i => T.d (rowD (backR n rows i)))), some (.d (.int (0 + (i : Nat)))), some (.own p1 L), s4, s5, none, none] ∧ L = ((List.range k).map fun k => T.d (.int (detN (n - 1) (minor k (rows.eraseIdx i)) * sg (i + k)))) ∧ k ≤ n, ⟨_, _, _, rfl, rfl, by omega⟩, fun k x r hx hW => ?_, fun r hW => ?_⟩⟩
    · obtain ⟨L, s4, s5, rfl, rfl, hk⟩ := hW
      obtain ⟨hk1, rfl⟩ := rangeI_get hx
      have hk2 : k < n := by
        have : k < ((rows.map rowD).length : Int).toNat := hk1
        omega
      have ek : (0 : Int) + (k : Nat) = ((k : Nat) : Int) := by omega
      refine ⟨_, rfl, ?_⟩
      refine lf_cut (fun u => rowD (u.1.eraseIdx k)) (fun u => decide (((u.2 : Nat) : Int) ≠ ((0 + i : Nat) : Int))) rows.zipIdx (enum_zip rows) (by rw [List.length_zipIdx]; omega) (fun r0 h0 u hu R S ku kn => ?_) fun r0 h0 p2 => ?_
      · simp only [wp, puts, List.set_cons_succ, List.set_cons_zero] at h0; subst h0
        have mu : u.1 ∈ rows := by
          have := List.mem_zipIdx hu
          rw [this.2.2]; exact List.getElem_mem _
        have lu := hs.2 _ mu
        refine ⟨rfl, rfl, rfl, fun hc => ?_, fun hc => ?_⟩
        · have e := erase_cut (r := u.1) (k := k) (by omega)
          have c1 : (cutL (u.1.map PyData.int) none (some (0 + (k : Int)))).length + (cutL (u.1.map PyData.int) (some (0 + (k : Int) + 1)) none).length ≤ 1000 := by
            rw [ek, ← List.length_append, e, List.length_map, List.length_eraseIdx]
            split <;> omega
          refine fun p3 => ⟨nvs_d _, fun p4 => ⟨nvs_d _, ?_⟩⟩
          rw [fz_outs, fz_outs]
          refine ⟨Nat.le_trans c1 (by decide), fun p5 => ?_⟩
          rw [← List.map_append]
          refine ⟨nvs_d _, ?_⟩
          rw [fz_outs, show cutL (u.1.map PyData.int) none (some (0 + (k : Int))) ++ cutL (u.1.map PyData.int) (some (0 + (k : Int) + 1)) none = (u.1.eraseIdx k).map PyData.int by rw [ek]; exact e]
          exact ku (ne_int hc) _ rfl
        · exact kn (ne_int hc) _ rfl
      · simp only [wp, puts, List.set_cons_succ, List.set_cons_zero] at h0; subst h0
        rw [show (rows.zipIdx.filter fun u => decide (((u.2 : Nat) : Int) ≠ ((0 + i : Nat) : Int))).map (fun u => T.d (rowD (u.1.eraseIdx k))) = (minor k (rows.eraseIdx i)).map fun r => T.d (rowD r) by
          rw [← zip_filt rows 0 i]
          unfold minor
          rw [List.map_map, List.map_map]; rfl]
        refine ⟨nvs_mapT _ _ fun _ _ => rfl, ?_⟩
        rw [fz_own]
        have sd := det_Sz (by omega) (sq_restR hs hi2 hk2) (sz_restR (i := i) (k := k) hz)
        have hm : (n - 1) * (b + 2) ≤ 3 * (20000 + 2) := Nat.mul_le_mul (by omega) (by omega)
        refine ⟨nd0, minor k (rows.eraseIdx i), n - 1, b, rfl, sq_restR hs hi2 hk2, by omega, by omega, sz_restR hz, hb, pz, mulOkL (by decide) (by decide), mulOk (m := 2) sd (by unfold Sz; have := em_b (0 + (i : Nat) + (0 + (k : Nat))) 2; omega) (by omega), ?_⟩
        refine ⟨by rw [List.length_map, List.length_range]; omega, _, _, _, rfl, ?_, by omega⟩
        rw [List.range_succ, List.map_append]
        show _ ++ [T.d (.int (_ * (1 - 2 * ((0 + (i : Int) + (0 + (k : Int))) % 2))))] = _ ++ [T.d (.int _)]
        rw [show (0 + (i : Int) + (0 + (k : Int))) = ((i + k : Nat) : Int) by omega, sgn_of]
    · obtain ⟨L, s4, s5, rfl, rfl, hk⟩ := hW
      have en : (rangeI 0 ((rows.map rowD).length : Int).toNat).length = n := by rw [rangeI_len]; omega
      rw [show (rangeI 0 ((rows.map rowD).length : Int).toNat).length = n from en]
      refine ⟨nvs_mapT _ _ fun _ _ => rfl, by rw [List.length_map, List.length_range]; omega, _, _, _, _, _, rfl, ?_, by omega⟩
      rw [List.range_succ, List.map_append]
      show _ ++ [T.d (fz (T.own p1 _))] = _ ++ [T.d (rowD (backR n rows i))]
      unfold backR
      rw [show fz (T.own p1 ((List.range n).map fun k => T.d (.int (detN (n - 1) (minor k (rows.eraseIdx i)) * sg (i + k))))) = rowD ((List.range n).map fun k => detN (n - 1) (minor k (rows.eraseIdx i)) * sg (i + k)) by
        rw [show ((List.range n).map fun k => T.d (.int (detN (n - 1) (minor k (rows.eraseIdx i)) * sg (i + k)))) = ((List.range n).map fun k => detN (n - 1) (minor k (rows.eraseIdx i)) * sg (i + k)).map fun x => T.d (PyData.int x) by rw [List.map_map]; rfl]
        exact fz_own _ _ _]
  · obtain ⟨L, s2, s3, s4, s5, rfl, rfl, hi⟩ := hW
    have en : (rangeI 0 ((rows.map rowD).length : Int).toNat).length = n := by rw [rangeI_len]; omega
    rw [show (rangeI 0 ((rows.map rowD).length : Int).toNat).length = n from en]
    exact ⟨⟨⟩, q p0⟩
end L3
set_option pp.maxSteps 600
namespace L3
open PySem PySem.Spec PyProof.Rows L2
local macro_rules | `(tactic| wtm_at "sh") => `(tactic| conv => whnf)
/-! ## multiples within bounds -/
def dnS (n : Nat) (b lo hi : List Int) : Int := sumR n fun j => min (b.getD j 0 * lo.getD j 0) (b.getD j 0 * hi.getD j 0)
def upS (n : Nat) (b lo hi : List Int) : Int := sumR n fun j => max (b.getD j 0 * lo.getD j 0) (b.getD j 0 * hi.getD j 0)
def loM (n : Nat) (w : Int) (b lo hi : List Int) : Int := if w < 0 then 0 - (0 - (0 - upS n b lo hi)) / (0 - w) else 0 - (0 - dnS n b lo hi) / w
def hiM (n : Nat) (w : Int) (b lo hi : List Int) : Int := if w < 0 then (0 - dnS n b lo hi) / (0 - w) else upS n b lo hi / w
theorem Sz.neg0 {n : Nat} {i : Int} (h : Sz n i) : Sz (n + 1) (0 - i) := by
  unfold Sz at *
  rw [Nat.pow_succ]
  omega
theorem le_div {a w c : Int} (h : 0 < w) : c ≤ a / w ↔ c * w ≤ a := Int.le_ediv_iff_mul_le h
theorem loM_iff {n : Nat} {w c : Int} {b lo hi : List Int} (hw : w ≠ 0) : (loM n w b lo hi ≤ c ∧ c ≤ hiM n w b lo hi) ↔ (dnS n b lo hi ≤ w * c ∧ w * c ≤ upS n b lo hi) := by
  unfold loM hiM
  by_cases h : w < 0
  · rw [if_pos h, if_pos h, le_div (by omega)]
    have e1 : 0 - (0 - (0 - upS n b lo hi)) / (0 - w) ≤ c ↔ - c ≤ (0 - (0 - upS n b lo hi)) / (0 - w) := by omega
    rw [e1, le_div (by omega)]
    have e2 : -c * (0 - w) = w * c := by grind
    have e3 : c * (0 - w) = - (w * c) := by grind
    omega
  · rw [if_neg h, if_neg h, le_div (by omega)]
    have e1 : 0 - (0 - dnS n b lo hi) / w ≤ c ↔ - c ≤ (0 - dnS n b lo hi) / w := by omega
    rw [e1, le_div (by omega)]
    have e2 : -c * w = - (w * c) := by grind
    have e3 : c * w = w * c := by grind
    omega
theorem int_at {x : List Int} {i : Nat} {y : PyData} (h : (x.map PyData.int)[i]? = some y) : i < x.length ∧ y = .int (x.getD i 0) := by
  rw [List.getElem?_map] at h
  by_cases c : i < x.length
  · rw [List.getElem?_eq_getElem c] at h
    cases h
    exact ⟨c, by rw [List.getD_eq_getElem?_getD, List.getElem?_eq_getElem c]; rfl⟩
  · rw [List.getElem?_eq_none (by omega)] at h; cases h
def L1_multiples : TS3 := (xFor (xZip3 (xView 0) (xView 2) (xView 3)) (xGTup 3 (xGCons (xGName 6) (xGCons (xGName 7) (xGCons (xGName 8) xGNil)))) (xSeq (xAugAdd 4 (x2 kMin (x2 kMul (xView 6) (xView 7)) (x2 kMul (xView 6) (xView 8))))
  (xAugAdd 5 (x2 kMax (x2 kMul (xView 6) (xView 7)) (x2 kMul (xView 6) (xView 8))))))
def R2_multiples : TS3 := (xRet (xTup (xCons (xD (x2 kSub (xC (.int 0)) (x2 kDiv (x2 kSub (xC (.int 0)) (xView 4)) (xView 1)))) (xCons (xD (x2 kDiv (xView 5) (xView 1))) xNil))))
def N_multiples : List Str := ["own", "whole", "lows", "highs", "least", "most", "number", "low", "high"]
def body_multiples : TS3 := (xSeq (xAsg (xD (xC (.int 0))) (xGName 4))
  (xSeq (xAsg (xD (xC (.int 0))) (xGName 5))
  (xSeq L1_multiples
  (xSeq (xIfS (xTest (x2 kLt (xView 1) (xC (.int 0)))) (xPar3 4 5 1 (xCons (xD (x2 kSub (xC (.int 0)) (xView 5))) (xCons (xD (x2 kSub (xC (.int 0)) (xView 4))) (xCons (xD (x2 kSub (xC (.int 0)) (xView 1))) xNil)))) xNext)
  R2_multiples))))
def sp_multiples : Sp3 := fun ts Q _ => ∃ n x w lo hi b, ts = [.d (rowD x), .d (.int w), .d (rowD lo), .d (rowD hi)] ∧ n ≤ 4 ∧ x.length = n ∧ lo.length = n ∧ hi.length = n ∧ SzL b x ∧ SzL b lo ∧ SzL b hi ∧ b ≤ 200000 ∧ w ≠ 0 ∧ Sz 8990 w ∧ Q (.d (.tuple [.int (loM n w x lo hi), .int (hiM n w x lo hi)])) ts
theorem v_multiples (ts Q E) (h : sp_multiples ts Q E) : body_multiples { nx := fun r => finOk ts r ∧ Q (.d .none) (finF ts r), rt := fun x r => finOk ts r ∧ Q x (finF ts r) } (start3 N_multiples ts) := by
  obtain ⟨n, x, w, lo, hi, b, rfl, h4, hx, hlo, hhi, zx, zlo, zhi, hb, hw, zw, q⟩ := h
  refine ⟨_, _, _, rfl, rfl, rfl, fun i r => ∃ a c s6 s7 s8, r = [some (.d (rowD x)), some (.d (.int w)), some (.d (rowD lo)), some (.d (rowD hi)), some (.d (.int a)), some (.d (.int c)), s6, s7, s8] ∧ a = dnS i x lo hi ∧ c = upS i x lo hi ∧ i ≤ n, ⟨_, _, _, _, _, rfl, rfl, rfl, by omega⟩, fun i y r hy hW => ?_, fun r hW => ?_⟩
  · obtain ⟨a, c, s6, s7, s8, rfl, rfl, rfl, hi2⟩ := hW
    obtain ⟨y1, y2, y3, e1, e2, e3, rfl⟩ := zipD3_at hy
    obtain ⟨g1, rfl⟩ := int_at e1
    obtain ⟨g2, rfl⟩ := int_at e2
    obtain ⟨g3, rfl⟩ := int_at e3
    refine ⟨rfl, ?_⟩
    refine ⟨mulOk (zx i) (zlo i) (by omega), mulOk (zx i) (zhi i) (by omega), ⟨⟩, mulOk (zx i) (zlo i) (by omega), mulOk (zx i) (zhi i) (by omega), ⟨⟩, _, _, _, _, _, rfl, rfl, rfl, by omega⟩
  · obtain ⟨a, c, s6, s7, s8, rfl, rfl, rfl, hi2⟩ := hW
    have hle := zipD3_len (Nat.le_refl (zipD3 (x.map PyData.int) (lo.map PyData.int) (hi.map PyData.int)).length)
    have en : (zipD3 (x.map PyData.int) (lo.map PyData.int) (hi.map PyData.int)).length = n := by
      rw [List.length_map, List.length_map, List.length_map] at hle
      exact Nat.le_antisymm hi2 (by omega)
    rw [show (zipD3 (x.map PyData.int) (lo.map PyData.int) (hi.map PyData.int)).length = n from en]
    refine ⟨fun hc => ?_, fun hc => ?_⟩
    · have hc : w < 0 := of_decide_eq_true hc
      refine ⟨divOk (n := 8991) (by omega) zw.neg0 (by decide), divOk (n := 8991) (by omega) zw.neg0 (by decide), sz 2, ?_⟩
      have e1 : loM n w x lo hi = 0 - (0 - (0 - upS n x lo hi)) / (0 - w) := if_pos hc
      have e2 : hiM n w x lo hi = (0 - dnS n x lo hi) / (0 - w) := if_pos hc
      rw [e1, e2] at q
      exact ⟨⟨⟩, q⟩
    · have hc : ¬ w < 0 := of_decide_eq_false hc
      refine ⟨divOk (n := 8990) (by omega) zw (by decide), divOk (n := 8990) (by omega) zw (by decide), sz 2, ?_⟩
      have e1 : loM n w x lo hi = 0 - (0 - dnS n x lo hi) / w := if_neg hc
      have e2 : hiM n w x lo hi = upS n x lo hi / w := if_neg hc
      rw [e1, e2] at q
      exact ⟨⟨⟩, q⟩
def L1_stretch_in : TS3 := (xFor (xZip4 (xView 0) (xView 1) (xView 2) (xView 3)) (xGTup 4 (xGCons (xGName 6) (xGCons (xGName 7) (xGCons (xGName 8) (xGCons (xGName 9) xGNil))))) (xSeq (xIfS (xAnd (xTest (x2 kEqI (xView 7) (xC (.int 0)))) (xNot (xTest (xChain pLe pLe (xView 8) (xView 6) (xView 9))))) (xRet (xD (xC .none))) xNext)
  (xIfS (xTest (x2 kNeI (xView 7) (xC (.int 0)))) (xSeq (xAsg (xIf (xTest (x2 kGt (xView 7) (xC (.int 0)))) (xTup (xCons (xD (x2 kSub (xView 8) (xView 6))) (xCons (xD (x2 kSub (xView 9) (xView 6))) xNil))) (xTup (xCons (xD (x2 kSub (xView 6) (xView 9))) (xCons (xD (x2 kSub (xView 6) (xView 8))) xNil)))) (xGTup 2 (xGCons (xGName 10) (xGCons (xGName 11) xGNil))))
  (xSeq (xPar 12 13 (xCons (xD (x2 kSub (xC (.int 0)) (x2 kDiv (x2 kSub (xC (.int 0)) (xView 10)) (x1 cAbs (xView 7))))) (xCons (xD (x2 kDiv (xView 11) (x1 cAbs (xView 7)))) xNil)))
  (xSeq (xAsg (xD (xIf (xTest (x2 kIsN (xView 4) (xC .none))) (xView 12) (x2 kMax (xView 4) (xView 12)))) (xGName 4))
  (xAsg (xD (xIf (xTest (x2 kIsN (xView 5) (xC .none))) (xView 13) (x2 kMin (xView 5) (xView 13)))) (xGName 5))))) xNext)))
def N_stretch_in : List Str := ["start", "row", "lows", "highs", "least", "most", "begin", "number", "low", "high", "one", "other", "first", "last"]
def body_stretch_in : TS3 := (xSeq (xAsg (xTup (xCons (xD (xC .none)) (xCons (xD (xC .none)) xNil))) (xGTup 2 (xGCons (xGName 4) (xGCons (xGName 5) xGNil))))
  (xSeq L1_stretch_in
  (xRet (xIf (xTest (x2 kLe (xView 4) (xView 5))) (xTup (xCons (xMove 4) (xCons (xMove 5) xNil))) (xD (xC .none))))))
def InB (n : Nat) (lo hi : List Int) (x : List Int) : Prop := ∀ j, j < n → lo.getD j 0 ≤ x.getD j 0 ∧ x.getD j 0 ≤ hi.getD j 0
def optP : Option (Int × Int) → PyData
  | none => .none
  | some p => .tuple [.int p.1, .int p.2]
/-- what is known of the bounds behind i places -/
def StI (s r lo hi : List Int) (i : Nat) : Option (Int × Int) → Prop
  | none => ∀ j, j < i → r.getD j 0 = 0 ∧ lo.getD j 0 ≤ s.getD j 0 ∧ s.getD j 0 ≤ hi.getD j 0
  | some p => (∃ j, j < i ∧ r.getD j 0 ≠ 0) ∧ ∀ m, (∀ j, j < i → lo.getD j 0 ≤ s.getD j 0 + m * r.getD j 0 ∧ s.getD j 0 + m * r.getD j 0 ≤ hi.getD j 0) ↔ p.1 ≤ m ∧ m ≤ p.2
def fstO : Option (Int × Int) → PyData
  | none => .none
  | some p => .int p.1
def sndO : Option (Int × Int) → PyData
  | none => .none
  | some p => .int p.2
/-- one place: the multiples within bounds there -/
theorem place_in {s r lo hi : Int} (h : r ≠ 0) (m : Int) : (lo ≤ s + m * r ∧ s + m * r ≤ hi) ↔ (0 - (0 - (if r > 0 then lo - s else s - hi)) / (r.natAbs : Int) ≤ m ∧ m ≤ (if r > 0 then hi - s else s - lo) / (r.natAbs : Int)) := by
  have hp : (0 : Int) < (r.natAbs : Int) := by omega
  have e1 : ∀ u : Int, 0 - (0 - u) / (r.natAbs : Int) ≤ m ↔ u ≤ m * (r.natAbs : Int) := fun u => by
    have : 0 - (0 - u) / (r.natAbs : Int) ≤ m ↔ - m ≤ (0 - u) / (r.natAbs : Int) := by omega
    rw [this, le_div hp, Int.neg_mul]; omega
  rw [e1, le_div hp]
  by_cases c : r > 0
  · rw [if_pos c, if_pos c, show (r.natAbs : Int) = r by omega]; omega
  · rw [if_neg c, if_neg c, show (r.natAbs : Int) = -r by omega, Int.mul_neg]; omega
theorem StI.skip {s r lo hi : List Int} {i : Nat} {o : Option (Int × Int)} (h : StI s r lo hi i o) (hr : r.getD i 0 = 0) (hb : lo.getD i 0 ≤ s.getD i 0 ∧ s.getD i 0 ≤ hi.getD i 0) : StI s r lo hi (i + 1) o := by
  cases o with
  | none =>
    intro j hj
    by_cases c : j = i
    · subst c; exact ⟨hr, hb⟩
    · exact h j (by omega)
  | some p =>
    obtain ⟨⟨j, hj, hj2⟩, h2⟩ := h
    refine ⟨⟨j, by omega, hj2⟩, fun m => ⟨fun k => (h2 m).mp fun j hj => k j (by omega), fun k j hj => ?_⟩⟩
    by_cases c : j = i
    · subst c; rw [hr, Int.mul_zero, Int.add_zero]; exact hb
    · exact (h2 m).mpr k j (by omega)
def nextO (o : Option (Int × Int)) (f l : Int) : Option (Int × Int) := some (match o with | none => (f, l) | some p => (max p.1 f, min p.2 l))
theorem StI.step {s r lo hi : List Int} {i : Nat} {o : Option (Int × Int)} {f l : Int} (h : StI s r lo hi i o) (hr : r.getD i 0 ≠ 0) (hb : ∀ m, (lo.getD i 0 ≤ s.getD i 0 + m * r.getD i 0 ∧ s.getD i 0 + m * r.getD i 0 ≤ hi.getD i 0) ↔ f ≤ m ∧ m ≤ l) : StI s r lo hi (i + 1) (nextO o f l) := by
  refine ⟨⟨i, by omega, hr⟩, fun m => ?_⟩
  cases o with
  | none =>
    refine ⟨fun k => (hb m).mp (k i (by omega)), fun k j hj => ?_⟩
    by_cases c : j = i
    · subst c; exact (hb m).mpr k
    · obtain ⟨h1, h2⟩ := h j (by omega)
      rw [h1, Int.mul_zero, Int.add_zero]; exact h2
  | some p =>
    obtain ⟨_, h2⟩ := h
    show _ ↔ max p.1 f ≤ m ∧ m ≤ min p.2 l
    have h2 := h2 m
    have hb := hb m
    refine ⟨fun k => ?_, fun k j hj => ?_⟩
    · have a1 := h2.mp fun j hj => k j (by omega)
      have a2 := hb.mp (k i (by omega))
      omega
    · by_cases c : j = i
      · subst c; exact hb.mpr (by omega)
      · exact h2.mpr (by omega) j (by omega)
def sp_stretch_in : Sp3 := fun ts Q _ => ∃ n s r lo hi, ts = [.d (rowD s), .d (rowD r), .d (rowD lo), .d (rowD hi)] ∧ n ≤ 4 ∧ s.length = n ∧ r.length = n ∧ lo.length = n ∧ hi.length = n ∧ SzL 8990 r ∧ (∃ j, j < n ∧ r.getD j 0 ≠ 0) ∧ ∀ o : Option (Int × Int), (∀ m, InB n lo hi (vAdd s m r) ↔ ∃ p, o = some p ∧ p.1 ≤ m ∧ m ≤ p.2) → (∀ p, o = some p → p.1 ≤ p.2) → Q (.d (optP o)) ts
set_option maxHeartbeats 4000000 in
theorem v_stretch_in (ts Q E) (h : sp_stretch_in ts Q E) : body_stretch_in { nx := fun r => finOk ts r ∧ Q (.d .none) (finF ts r), rt := fun x r => finOk ts r ∧ Q x (finF ts r) } (start3 N_stretch_in ts) := by
  obtain ⟨n, s, r, lo, hi, rfl, h4, hs, hr, hlo, hhi, zr, ⟨j0, hj0, hj1⟩, q⟩ := h
  have inb : ∀ m, InB n lo hi (vAdd s m r) ↔ ∀ j, j < n → lo.getD j 0 ≤ s.getD j 0 + m * r.getD j 0 ∧ s.getD j 0 + m * r.getD j 0 ≤ hi.getD j 0 := fun m => by
    unfold InB
    refine forall_congr' fun j => ?_
    rw [vAdd_getD (by omega)]
  refine ⟨sz 2, rfl, _, _, _, _, rfl, rfl, rfl, rfl, fun i t => ∃ o a b s6 s7 s8 s9 s10 s11 s12 s13, t = [some (.d (rowD s)), some (.d (rowD r)), some (.d (rowD lo)), some (.d (rowD hi)), some (.d a), some (.d b), s6, s7, s8, s9, s10, s11, s12, s13] ∧ a = fstO o ∧ b = sndO o ∧ StI s r lo hi i o ∧ i ≤ n, ⟨none, _, _, _, _, _, _, _, _, _, _, rfl, rfl, rfl, fun j hj => by omega, by omega⟩, fun i y t hy hW => ?_, fun t hW => ?_⟩
  · obtain ⟨o, a, b, s6, s7, s8, s9, s10, s11, s12, s13, rfl, rfl, rfl, hI, hi2⟩ := hW
    obtain ⟨y1, y2, y3, y4, e1, e2, e3, e4, rfl⟩ := zipD4_at hy
    obtain ⟨g1, rfl⟩ := int_at e1
    obtain ⟨g2, rfl⟩ := int_at e2
    obtain ⟨g3, rfl⟩ := int_at e3
    obtain ⟨g4, rfl⟩ := int_at e4
    have nxt : ∀ {s6 s7 s8 s9 s10 s11 s12 s13 : Option T} {o' : Option (Int × Int)} {a b : PyData}, a = fstO o' → b = sndO o' → StI s r lo hi (i + 1) o' → ∃ o a_1 b_1 t6 t7 t8 t9 t10 t11 t12 t13, [some (T.d (rowD s)), some (T.d (rowD r)), some (T.d (rowD lo)), some (T.d (rowD hi)), some (T.d a), some (T.d b), s6, s7, s8, s9, s10, s11, s12, s13] = [some (T.d (rowD s)), some (T.d (rowD r)), some (T.d (rowD lo)), some (T.d (rowD hi)), some (T.d a_1), some (T.d b_1), t6, t7, t8, t9, t10, t11, t12, t13] ∧ a_1 = fstO o ∧ b_1 = sndO o ∧ StI s r lo hi (i + 1) o ∧ i + 1 ≤ n := fun e1 e2 h => ⟨_, _, _, _, _, _, _, _, _, _, _, rfl, e1, e2, h, by omega⟩
    refine ⟨rfl, fun hc => ?_, fun hc => ?_⟩
    · have hr0 : r.getD i 0 = 0 := of_decide_eq_true hc
      have out : ¬ (lo.getD i 0 ≤ s.getD i 0 ∧ s.getD i 0 ≤ hi.getD i 0) → Q (.d (optP none)) [T.d (rowD s), T.d (rowD r), T.d (rowD lo), T.d (rowD hi)] := fun hn => q none (fun m => ⟨fun h => by
          have := (inb m).mp h i (by omega)
          rw [hr0, Int.mul_zero, Int.add_zero] at this
          exact absurd this hn, fun ⟨p, h, _⟩ => by cases h⟩) fun p h => by cases h
      refine ⟨fun p1 => ⟨fun p2 => ?_, fun p2 => ?_⟩, fun p1 => ⟨fun p2 => ?_, nofun⟩⟩
      · refine ⟨⟨⟩, out fun h => ?_⟩
        have : (!decide (s.getD i 0 ≤ hi.getD i 0)) = true := p2
        rw [decide_eq_true h.2] at this; cases this
      · have p1 : lo.getD i 0 ≤ s.getD i 0 := of_decide_eq_true p1
        have p2 : (!decide (s.getD i 0 ≤ hi.getD i 0)) = false := p2
        have p2 : s.getD i 0 ≤ hi.getD i 0 := by
          rcases Decidable.em (s.getD i 0 ≤ hi.getD i 0) with h | h
          · exact h
          · rw [decide_eq_false h] at p2; cases p2
        refine ⟨fun hc2 => by rw [decide_eq_true hr0] at hc2; exact absurd hc2 (by decide), fun _ => nxt rfl rfl (hI.skip hr0 ⟨p1, p2⟩)⟩
      · exact ⟨⟨⟩, out fun h => (of_decide_eq_false p1) h.1⟩
    · have hr0 : r.getD i 0 ≠ 0 := of_decide_eq_false hc
      have key := hI.step hr0 fun m => place_in hr0 m
      have hp : (0 : Int) < ((r.getD i 0).natAbs : Int) := by omega
      have zp : Sz 8990 ((r.getD i 0).natAbs : Int) := (zr i).le (by omega)
      refine ⟨nofun, fun _ => ⟨fun _ => ⟨fun hs => ?_, fun hs => ?_⟩, fun hc2 => by rw [decide_eq_false hr0] at hc2; exact absurd hc2 (by decide)⟩⟩
      · have hs : r.getD i 0 > 0 := of_decide_eq_true hs
        rw [if_pos hs, if_pos hs] at key
        refine ⟨sz 2, rfl, divOk hp zp (by decide), divOk hp zp (by decide), ?_⟩
        cases o with
        | none => exact ⟨⟨⟩, fun _ => ⟨⟨⟩, fun _ => nxt rfl rfl key, nofun⟩, nofun⟩
        | some p => exact ⟨⟨⟩, nofun, fun _ => ⟨⟨⟩, nofun, fun _ => nxt rfl rfl key⟩⟩
      · have hs : ¬ r.getD i 0 > 0 := of_decide_eq_false hs
        rw [if_neg hs, if_neg hs] at key
        refine ⟨sz 2, rfl, divOk hp zp (by decide), divOk hp zp (by decide), ?_⟩
        cases o with
        | none => exact ⟨⟨⟩, fun _ => ⟨⟨⟩, fun _ => nxt rfl rfl key, nofun⟩, nofun⟩
        | some p => exact ⟨⟨⟩, nofun, fun _ => ⟨⟨⟩, nofun, fun _ => nxt rfl rfl key⟩⟩
  · obtain ⟨o, a, b, s6, s7, s8, s9, s10, s11, s12, s13, rfl, rfl, rfl, hI, hi2⟩ := hW
    have hle := zipD4_len (Nat.le_refl (zipD4 (s.map PyData.int) (r.map PyData.int) (lo.map PyData.int) (hi.map PyData.int)).length)
    have en : (zipD4 (s.map PyData.int) (r.map PyData.int) (lo.map PyData.int) (hi.map PyData.int)).length = n := by
      rw [List.length_map, List.length_map, List.length_map, List.length_map] at hle
      exact Nat.le_antisymm hi2 (by omega)
    rw [en] at hI
    cases o with
    | none => exact absurd (hI j0 hj0).1 hj1
    | some p =>
      have hI := hI.2
      refine ⟨fun hc => ?_, fun hc => ?_⟩
      · have hc : p.1 ≤ p.2 := of_decide_eq_true hc
        exact ⟨sz 2, ⟨⟩, q (some p) (fun m => by rw [inb, hI]; exact ⟨fun h => ⟨p, rfl, h⟩, fun ⟨p2, h, h2⟩ => by cases h; exact h2⟩) fun p2 h => by cases h; exact hc⟩
      · have hc : ¬ p.1 ≤ p.2 := of_decide_eq_false hc
        exact ⟨⟨⟩, q none (fun m => by rw [inb, hI]; exact ⟨fun h => by omega, fun ⟨p2, h, h2⟩ => by cases h⟩) fun p2 h => by cases h⟩
def L1_put_to : TS3 := (xFor (xR2 (xView 2) (x2 kAdd (xView 3) (xC (.int 1)))) (xGName 6) (xDrop (xD (xFz (xApp 4 (xD (xFz (xCall sp_taken_off xNoE (xArg (xView 5) (xArg (x2 kSub (xC (.int 0)) (xView 6)) (xArg (xView 1) xANil)))))))))))
def L2_put_to : TS3 := (xFor (xSeqI (xView 0)) (xGName 5) L1_put_to)
def N_put_to : List Str := ["sums", "row", "least", "most", "found", "one", "many"]
def body_put_to : TS3 := (xSeq (xAsg (xLst xNil) (xGName 4))
  (xSeq L2_put_to
  (xRet (xMove 4))))
def putS (S : Mat) (r : List Int) (lo hi : Int) : Mat := S.flatMap fun s => (List.range (hi + 1 - lo).toNat).map fun i => vAdd s (lo + (i : Nat)) r
theorem putS_len (S : Mat) (r : List Int) (lo hi : Int) : (putS S r lo hi).length = S.length * (hi + 1 - lo).toNat := by
  unfold putS
  induction S with
  | nil => simp
  | cons s S ih => rw [List.flatMap_cons, List.length_append, ih, List.length_map, List.length_range, List.length_cons, Nat.add_mul]; omega
def sp_put_to : Sp3 := fun ts Q _ => ∃ n S r lo hi_ b, ts = [.d (matL S), .d (rowD r), .d (.int lo), .d (.int hi_)] ∧ n ≤ 4 ∧ (∀ s ∈ S, s.length = n) ∧ r.length = n ∧ SzL b r ∧ b ≤ 20000 ∧ -(2 ^ 61) ≤ lo ∧ hi_ ≤ 2 ^ 61 ∧ lo ≤ 2 ^ 61 ∧ -(2 ^ 61) ≤ hi_ ∧ S.length * (hi_ + 1 - lo).toNat < sizeLine ∧ ∀ p, Q (matO p (putS S r lo hi_)) ts
theorem v_put_to (ts Q E) (h : sp_put_to ts Q E) : body_put_to { nx := fun r => finOk ts r ∧ Q (.d .none) (finF ts r), rt := fun x r => finOk ts r ∧ Q x (finF ts r) } (start3 N_put_to ts) := by
  obtain ⟨n, S, r, lo, hi_, b, rfl, h4, hS, hr, zr, hb, l1, l2, l3, l4, hsz, q⟩ := h
  refine ⟨sz 0, fun p0 => ⟨fun i t => ∃ L s5 s6, t = [some (.d (matL S)), some (.d (rowD r)), some (.d (.int lo)), some (.d (.int hi_)), some (.own p0 L), s5, s6] ∧ L = ((putS (S.take i) r lo hi_).map fun r => T.d (rowD r)) ∧ i ≤ S.length, ⟨_, _, _, rfl, rfl, by omega⟩, fun i y t hy hW => ?_, fun t hW => ?_⟩⟩
  · obtain ⟨L, s5, s6, rfl, rfl, hi⟩ := hW
    obtain ⟨u, hu, rfl⟩ := get_fun hy
    have hi2 : i < S.length := (List.getElem?_eq_some_iff.mp hu).1
    have lu := hS u (List.mem_of_getElem? hu)
    refine ⟨⟨by omega, by omega, by omega, by omega⟩, fun k t => ∃ L s6, t = [some (.d (matL S)), some (.d (rowD r)), some (.d (.int lo)), some (.d (.int hi_)), some (.own p0 L), some (.d (rowD u)), s6] ∧ L = ((putS (S.take i) r lo hi_ ++ (List.range k).map fun i => vAdd u (lo + (i : Nat)) r).map fun r => T.d (rowD r)) ∧ k ≤ (hi_ + 1 - lo).toNat, ⟨_, _, rfl, by simp, by omega⟩, fun k y t hy hW => ?_, fun t hW => ?_⟩
    · obtain ⟨L, s6, rfl, rfl, hk⟩ := hW
      obtain ⟨hk1, rfl⟩ := rangeI_get hy
      have sm : Sz 64 (0 - (lo + (k : Nat))) := by unfold Sz; omega
      refine ⟨nd0, false, false, u, r, _, 64, b, rfl, sm, fun c hc => zr.mem hc, by omega, by omega, by omega, fun pa => ?_⟩
      refine ⟨nvs_map _ _, ?_, _, _, rfl, ?_, by omega⟩
      · rw [List.length_map, List.length_append, putS_len, List.length_take, List.length_map, List.length_range, Nat.min_eq_left (by omega)]
        have h1 : (i + 1) * (hi_ + 1 - lo).toNat ≤ S.length * (hi_ + 1 - lo).toNat := Nat.mul_le_mul_right _ (by omega)
        rw [Nat.add_mul] at h1
        omega
      · show _ ++ [T.d (fz (T.own pa _))] = _
        rw [show fz (T.own pa ((vAdd u (-(0 - (lo + (k : Nat)))) r).map fun a => T.d (.int a))) = rowD (vAdd u (-(0 - (lo + (k : Nat)))) r) from fz_own _ _ _, show -(0 - (lo + (k : Int))) = lo + (k : Int) by omega]
        simp only [List.range_succ, List.map_append, List.map_cons, List.map_nil, List.append_assoc]
    · obtain ⟨L, s6, rfl, rfl, hk⟩ := hW
      refine ⟨_, _, _, rfl, ?_, by omega⟩
      rw [rangeI_len]
      unfold putS
      rw [List.take_add_one, hu]
      simp only [List.flatMap_append, Option.toList_some, List.flatMap_cons, List.flatMap_nil, List.append_nil]
  · obtain ⟨L, s5, s6, rfl, rfl, hi⟩ := hW
    rw [List.length_map, List.take_length]
    exact ⟨⟨⟩, q p0⟩
end L3
set_option pp.maxSteps 600
namespace L3
open PySem PySem.Spec PyProof.Rows L2
/-! ## all sums within bounds: the plain law -/
/-- what tells a row's multiple, times the determinant -/
def Fd (n : Nat) (rows : Mat) (i : Nat) (x : List Int) : Int := detN n (rows.set i x)
theorem getD_some {rows : Mat} {k : Nat} (h : k < rows.length) : rows[k]? = some (rows.getD k []) := by
  rw [List.getD_eq_getElem?_getD, List.getElem?_eq_getElem h]; rfl
theorem Sq.getD {m n k : Nat} {rows : Mat} (hs : Sq m n rows) (h : k < m) : (rows.getD k []).length = n := hs.2 _ (getD_mem (by rw [hs.1]; exact h))
theorem Fd_lin {n i : Nat} {rows : Mat} {x y : List Int} {m : Int} (hs : Sq n n rows) (hi : i < n) (hx : x.length = n) (hy : y.length = n) : Fd n rows i (vAdd x m y) = Fd n rows i x + m * Fd n rows i y := det_lin n rows i x y m hs hi hx hy
theorem Fd_row {n i j : Nat} {rows : Mat} (h4 : n ≤ 4) (hs : Sq n n rows) (hi : i < n) (hj : j < n) : Fd n rows i (rows.getD j []) = if i = j then detN n rows else 0 := by
  have hl := hs.1
  unfold Fd
  by_cases c : i = j
  · subst c
    rw [if_pos rfl, set_same (getD_some (by omega))]
  · rw [if_neg c]
    exact det_alt' h4 (hs.set (hs.getD hj)) c (List.getElem?_set_self (by omega)) (by rw [List.getElem?_set_ne c]; exact getD_some (by omega))
theorem Fd_zero {n i : Nat} {rows : Mat} (hs : Sq n n rows) (hi : i < n) : Fd n rows i (List.replicate n 0) = 0 := det_zero_row hs hi
theorem Fd_inj {n : Nat} {rows : Mat} {x y : List Int} (h4 : n ≤ 4) (hs : Sq n n rows) (hd : detN n rows ≠ 0) (hx : x.length = n) (hy : y.length = n) (h : ∀ i, i < n → Fd n rows i x = Fd n rows i y) : x = y := getD_ext hx hy fun c hc => by
  have e1 := cramer n rows x h4 hs hx c hc
  have e2 := cramer n rows y h4 hs hy c hc
  have e3 : (sumR n fun i => detN n (rows.set i x) * (rows.getD i []).getD c 0) = sumR n fun i => detN n (rows.set i y) * (rows.getD i []).getD c 0 := sumR_congr fun i hi => by
    have := h i hi
    unfold Fd at this
    rw [this]
  rw [e3, ← e2] at e1
  exact Int.eq_of_mul_eq_mul_left hd e1
def sufC (n : Nat) (rows : Mat) (c : Nat → Int) : Nat → List Int
  | 0 => List.replicate n 0
  | t + 1 => vAdd (sufC n rows c t) (c (n - 1 - t)) (rows.getD (n - 1 - t) [])
theorem sufC_len {n : Nat} {rows : Mat} {c : Nat → Int} (hs : Sq n n rows) : ∀ t, t ≤ n → (sufC n rows c t).length = n
  | 0, _ => List.length_replicate
  | t + 1, h => vAdd_len (sufC_len hs t (by omega)) (hs.getD (by omega))
theorem sufC_span {n : Nat} {rows : Mat} {c : Nat → Int} (hs : Sq n n rows) : ∀ t, t ≤ n → Span n rows (sufC n rows c t)
  | 0, _ => .zero
  | t + 1, h => .add _ (sufC_span hs t (by omega)) (getD_mem (by rw [hs.1]; omega))
theorem sufC_congr {n : Nat} {rows : Mat} {c c' : Nat → Int} : ∀ t, t ≤ n → (∀ i, n - t ≤ i → i < n → c i = c' i) → sufC n rows c t = sufC n rows c' t
  | 0, _, _ => rfl
  | t + 1, h, e => by
    show vAdd _ _ _ = vAdd _ _ _
    rw [sufC_congr t (by omega) fun i h1 h2 => e i (by omega) h2, e (n - 1 - t) (by omega) (by omega)]
theorem Fd_suf {n i : Nat} {rows : Mat} {c : Nat → Int} (h4 : n ≤ 4) (hs : Sq n n rows) (hi : i < n) : ∀ t, t ≤ n → Fd n rows i (sufC n rows c t) = if n - t ≤ i then c i * detN n rows else 0
  | 0, _ => by rw [if_neg (by omega)]; exact Fd_zero hs hi
  | t + 1, h => by
    show Fd n rows i (vAdd _ _ _) = _
    have e1 := Fd_suf (c := c) h4 hs hi t (by omega)
    have e2 := Fd_row (j := n - 1 - t) h4 hs hi (by omega)
    rw [Fd_lin hs hi (sufC_len hs t (by omega)) (hs.getD (by omega))]
    by_cases e : i = n - 1 - t
    · have g1 : ¬ n - t ≤ i := by omega
      have g2 : n - (t + 1) ≤ i := by omega
      rw [if_neg g1] at e1
      rw [if_pos e] at e2
      rw [if_pos g2, e1, e2, ← e]; omega
    · rw [if_neg e] at e2
      rw [e2, Int.mul_zero, Int.add_zero, e1]
      by_cases e2 : n - t ≤ i
      · have g2 : n - (t + 1) ≤ i := by omega
        rw [if_pos e2, if_pos g2]
      · have g2 : ¬ n - (t + 1) ≤ i := by omega
        rw [if_neg e2, if_neg g2]
def upd1 (c : Nat → Int) (k : Nat) (m : Int) : Nat → Int := fun i => if i = k then m else c i
theorem upd1_self {c : Nat → Int} {k : Nat} {m : Int} : upd1 c k m k = m := if_pos rfl
theorem upd1_ne {c : Nat → Int} {k i : Nat} {m : Int} (h : i ≠ k) : upd1 c k m i = c i := if_neg h
abbrev lo_ (n : Nat) (rows : Mat) (lo hi : List Int) (i : Nat) : Int := loM n (detN n rows) (backR n rows i) lo hi
abbrev hi_ (n : Nat) (rows : Mat) (lo hi : List Int) (i : Nat) : Int := hiM n (detN n rows) (backR n rows i) lo hi
def sumsT (n : Nat) (rows : Mat) (lo hi : List Int) : Nat → Mat
  | 0 => [List.replicate n 0]
  | t + 1 => putS (sumsT n rows lo hi t) (rows.getD (n - 1 - t) []) (lo_ n rows lo hi (n - 1 - t)) (hi_ n rows lo hi (n - 1 - t))
def cntT (n : Nat) (rows : Mat) (lo hi : List Int) : Nat → Nat
  | 0 => 1
  | t + 1 => cntT n rows lo hi t * (hi_ n rows lo hi (n - 1 - t) + 1 - lo_ n rows lo hi (n - 1 - t)).toNat
theorem sumsT_len {n : Nat} {rows : Mat} {lo hi : List Int} : ∀ t, (sumsT n rows lo hi t).length = cntT n rows lo hi t
  | 0 => rfl
  | t + 1 => by
    show (putS _ _ _ _).length = cntT n rows lo hi t * _
    rw [putS_len, sumsT_len t]
theorem putS_mem {S : Mat} {r x : List Int} {a b : Int} : x ∈ putS S r a b ↔ ∃ s ∈ S, ∃ m : Int, a ≤ m ∧ m ≤ b ∧ x = vAdd s m r := by
  unfold putS
  rw [List.mem_flatMap]
  refine exists_congr fun s => and_congr_right fun hs => ?_
  rw [List.mem_map]
  constructor
  · rintro ⟨i, hi, rfl⟩
    have := List.mem_range.mp hi
    exact ⟨_, by omega, by omega, rfl⟩
  · rintro ⟨m, h1, h2, rfl⟩
    exact ⟨(m - a).toNat, List.mem_range.mpr (by omega), by rw [show a + ((m - a).toNat : Int) = m by omega]⟩
theorem sumsT_mem {n : Nat} {rows : Mat} {lo hi x : List Int} : ∀ t, t ≤ n → (x ∈ sumsT n rows lo hi t ↔ ∃ c : Nat → Int, (∀ i, n - t ≤ i → i < n → lo_ n rows lo hi i ≤ c i ∧ c i ≤ hi_ n rows lo hi i) ∧ x = sufC n rows c t)
  | 0, _ => by
    show x ∈ [_] ↔ _
    rw [List.mem_singleton]
    exact ⟨fun h => ⟨fun _ => 0, fun i h1 h2 => by omega, h⟩, fun ⟨c, _, h⟩ => h⟩
  | t + 1, ht => by
    show x ∈ putS _ _ _ _ ↔ _
    rw [putS_mem]
    constructor
    · rintro ⟨s, h1, m, h2, h3, rfl⟩
      obtain ⟨c, h4, rfl⟩ := (sumsT_mem t (by omega)).mp h1
      refine ⟨upd1 c (n - 1 - t) m, fun i i1 i2 => ?_, ?_⟩
      · by_cases e : i = n - 1 - t
        · subst e; rw [upd1_self]; exact ⟨h2, h3⟩
        · rw [upd1_ne e]; exact h4 i (by omega) i2
      · show _ = vAdd _ _ _
        rw [upd1_self]
        congr 1
        exact sufC_congr t (by omega) fun i i1 i2 => by rw [upd1_ne (by omega)]
    · rintro ⟨c, h, rfl⟩
      obtain ⟨h1, h2⟩ := h (n - 1 - t) (by omega) (by omega)
      exact ⟨sufC n rows c t, (sumsT_mem t (by omega)).mpr ⟨c, fun i i1 i2 => h i (by omega) i2, rfl⟩, _, h1, h2, rfl⟩
theorem nodup_flat {α β : Type} {f : α → List β} : ∀ {l : List α}, l.Nodup → (∀ x ∈ l, (f x).Nodup) → (∀ x ∈ l, ∀ y ∈ l, ∀ z, z ∈ f x → z ∈ f y → x = y) → (l.flatMap f).Nodup
  | [], _, _, _ => List.nodup_nil
  | x :: l, h, h1, h2 => by
    rw [List.flatMap_cons, List.nodup_append]
    obtain ⟨a1, a2⟩ := List.nodup_cons.mp h
    refine ⟨h1 x (by simp), nodup_flat a2 (fun y hy => h1 y (List.mem_cons_of_mem _ hy)) fun y hy z hz => h2 y (List.mem_cons_of_mem _ hy) z (List.mem_cons_of_mem _ hz), fun z hz w hw e => ?_⟩
    subst e
    obtain ⟨y, hy, hy2⟩ := List.mem_flatMap.mp hw
    exact a1 (h2 x (by simp) y (List.mem_cons_of_mem _ hy) z hz hy2 ▸ hy)
theorem nodup_maps {n : Nat} {rows : Mat} {k : Nat} {s : List Int} {a : Int} {w : Nat} (h4 : n ≤ 4) (hs : Sq n n rows) (hd : detN n rows ≠ 0) (hk : k < n) (hl : s.length = n) : ((List.range w).map fun i => vAdd s (a + (i : Nat)) (rows.getD k [])).Nodup := by
  refine List.Pairwise.map _ (fun i j hne heq => hne ?_) (List.nodup_range (n := w))
  have e := congrArg (Fd n rows k) heq
  rw [Fd_lin hs hk hl (hs.getD hk), Fd_lin hs hk hl (hs.getD hk), Fd_row h4 hs hk hk, if_pos rfl] at e
  have e2 : (a + (i : Int)) * detN n rows = (a + (j : Int)) * detN n rows := by omega
  have := Int.eq_of_mul_eq_mul_right hd e2
  omega
/-- a sum and its row: by what the functional of the row tells -/
theorem vAdd_split {n : Nat} {rows : Mat} {k : Nat} {s s' : List Int} {m m' : Int} (h4 : n ≤ 4) (hs : Sq n n rows) (hd : detN n rows ≠ 0) (hk : k < n) (hl : s.length = n) (hl' : s'.length = n) (f : Fd n rows k s = 0) (f' : Fd n rows k s' = 0) (h : vAdd s m (rows.getD k []) = vAdd s' m' (rows.getD k [])) : s = s' ∧ m = m' := by
  have e := congrArg (Fd n rows k) h
  rw [Fd_lin hs hk hl (hs.getD hk), Fd_lin hs hk hl' (hs.getD hk), Fd_row h4 hs hk hk, if_pos rfl, f, f'] at e
  have em : m = m' := Int.eq_of_mul_eq_mul_right hd (by omega)
  subst em
  refine ⟨Fd_inj h4 hs hd hl hl' fun i hi => ?_, rfl⟩
  have e := congrArg (Fd n rows i) h
  rw [Fd_lin hs hi hl (hs.getD hk), Fd_lin hs hi hl' (hs.getD hk)] at e
  omega
theorem sumsT_in {n : Nat} {rows : Mat} {lo hi x : List Int} {t : Nat} (h4 : n ≤ 4) (hs : Sq n n rows) (ht : t ≤ n) (h : x ∈ sumsT n rows lo hi t) : x.length = n ∧ Span n rows x ∧ ∀ i, i < n - t → Fd n rows i x = 0 := by
  obtain ⟨c, _, rfl⟩ := (sumsT_mem t ht).mp h
  exact ⟨sufC_len hs t ht, sufC_span hs t ht, fun i hi => by rw [Fd_suf h4 hs (by omega) t ht, if_neg (by omega)]⟩
theorem sumsT_nodup {n : Nat} {rows : Mat} {lo hi : List Int} (h4 : n ≤ 4) (hs : Sq n n rows) (hd : detN n rows ≠ 0) : ∀ t, t ≤ n → (sumsT n rows lo hi t).Nodup
  | 0, _ => by show [_].Nodup; simp
  | t + 1, h => by
    show (putS _ _ _ _).Nodup
    unfold putS
    refine nodup_flat (sumsT_nodup h4 hs hd t (by omega)) (fun x hx => nodup_maps h4 hs hd (by omega) (sumsT_in h4 hs (by omega) hx).1) fun x hx y hy z h1 h2 => ?_
    obtain ⟨i, _, rfl⟩ := List.mem_map.mp h1
    obtain ⟨j, _, h2⟩ := List.mem_map.mp h2
    obtain ⟨l1, _, f1⟩ := sumsT_in h4 hs (by omega) hx
    obtain ⟨l2, _, f2⟩ := sumsT_in h4 hs (by omega) hy
    exact (vAdd_split h4 hs hd (by omega) l1 l2 (f1 _ (by omega)) (f2 _ (by omega)) h2.symm).1
/-! ### the stretch of the first row's multiples -/
def StrP (n : Nat) (lo hi s r : List Int) (o : Option (Int × Int)) : Prop := (∀ m, InB n lo hi (vAdd s m r) ↔ ∃ p, o = some p ∧ p.1 ≤ m ∧ m ≤ p.2) ∧ ∀ p, o = some p → p.1 ≤ p.2
theorem StrP.eq {n : Nat} {lo hi s r : List Int} {o o' : Option (Int × Int)} (h : StrP n lo hi s r o) (h' : StrP n lo hi s r o') : o = o' := by
  have key : ∀ m, (∃ p, o = some p ∧ p.1 ≤ m ∧ m ≤ p.2) ↔ ∃ p, o' = some p ∧ p.1 ≤ m ∧ m ≤ p.2 := fun m => (h.1 m).symm.trans (h'.1 m)
  cases o with
  | none =>
    cases o' with
    | none => rfl
    | some p =>
      obtain ⟨q, e, _⟩ := (key p.1).mpr ⟨p, rfl, Int.le_refl _, h'.2 p rfl⟩
      cases e
  | some p =>
    have hp := h.2 p rfl
    cases o' with
    | none =>
      obtain ⟨q, e, _⟩ := (key p.1).mp ⟨p, rfl, Int.le_refl _, hp⟩
      cases e
    | some q =>
      have hq := h'.2 q rfl
      obtain ⟨_, e, a1, a2⟩ := (key p.1).mp ⟨p, rfl, Int.le_refl _, hp⟩
      cases e
      obtain ⟨_, e, a3, a4⟩ := (key p.2).mp ⟨p, rfl, hp, Int.le_refl _⟩
      cases e
      obtain ⟨_, e, b1, b2⟩ := (key q.1).mpr ⟨q, rfl, Int.le_refl _, hq⟩
      cases e
      obtain ⟨_, e, b3, b4⟩ := (key q.2).mpr ⟨q, rfl, hq, Int.le_refl _⟩
      cases e
      exact congrArg some (Prod.ext (by omega) (by omega))
open Classical in
noncomputable def strO (n : Nat) (lo hi r s : List Int) : Option (Int × Int) := if h : ∃ o, StrP n lo hi s r o then h.choose else none
theorem strO_eq {n : Nat} {lo hi s r : List Int} {o : Option (Int × Int)} (h : StrP n lo hi s r o) : o = strO n lo hi r s := by
  have hx : ∃ o, StrP n lo hi s r o := ⟨o, h⟩
  unfold strO
  rw [dif_pos hx]
  exact h.eq hx.choose_spec
/-- the starts that have a stretch, with it -/
noncomputable def strL (n : Nat) (lo hi r : List Int) (S : Mat) : List (List Int × Int × Int) := S.filterMap fun s => (strO n lo hi r s).map fun p => (s, p.1, p.2)
def runL (r : List Int) (q : List Int × Int × Int) : Mat := (List.range (q.2.2 + 1 - q.2.1).toNat).map fun i => vAdd q.1 (q.2.1 + (i : Nat)) r
noncomputable def allW (n : Nat) (rows : Mat) (lo hi : List Int) : Mat := (strL n lo hi (rows.getD 0 []) (sumsT n rows lo hi (n - 1))).flatMap (runL (rows.getD 0 []))
theorem runL_mem {r x : List Int} {q : List Int × Int × Int} : x ∈ runL r q ↔ ∃ m, q.2.1 ≤ m ∧ m ≤ q.2.2 ∧ x = vAdd q.1 m r := by
  unfold runL
  rw [List.mem_map]
  constructor
  · rintro ⟨i, hi, rfl⟩
    have := List.mem_range.mp hi
    exact ⟨_, by omega, by omega, rfl⟩
  · rintro ⟨m, h1, h2, rfl⟩
    exact ⟨(m - q.2.1).toNat, List.mem_range.mpr (by omega), by rw [show q.2.1 + ((m - q.2.1).toNat : Int) = m by omega]⟩
theorem strL_mem {n : Nat} {lo hi r : List Int} {S : Mat} {q : List Int × Int × Int} : q ∈ strL n lo hi r S ↔ q.1 ∈ S ∧ strO n lo hi r q.1 = some (q.2.1, q.2.2) := by
  unfold strL
  rw [List.mem_filterMap]
  constructor
  · rintro ⟨s, h1, h2⟩
    obtain ⟨p, e1, e2⟩ := Option.map_eq_some_iff.mp h2
    subst e2
    exact ⟨h1, e1⟩
  · rintro ⟨h1, h2⟩
    exact ⟨q.1, h1, by rw [h2]; rfl⟩
/-- every start has its stretch -/
theorem strP_ex {n : Nat} {lo hi s r : List Int} (hs : s.length = n) (hr : r.length = n) (hne : ∃ j, j < n ∧ r.getD j 0 ≠ 0) : ∃ o, StrP n lo hi s r o := by
  have inb : ∀ m, InB n lo hi (vAdd s m r) ↔ ∀ j, j < n → lo.getD j 0 ≤ s.getD j 0 + m * r.getD j 0 ∧ s.getD j 0 + m * r.getD j 0 ≤ hi.getD j 0 := fun m => by
    unfold InB
    refine forall_congr' fun j => ?_
    rw [vAdd_getD (by omega)]
  have step : ∀ i, i ≤ n → (∃ o, StI s r lo hi i o) ∨ ∀ m, ¬ InB n lo hi (vAdd s m r) := by
    intro i
    induction i with
    | zero => exact fun _ => .inl ⟨none, fun j hj => by omega⟩
    | succ i ih =>
      intro hi2
      rcases ih (by omega) with ⟨o, h⟩ | h
      · by_cases c : r.getD i 0 = 0
        · by_cases c2 : lo.getD i 0 ≤ s.getD i 0 ∧ s.getD i 0 ≤ hi.getD i 0
          · exact .inl ⟨o, h.skip c c2⟩
          · refine .inr fun m k => c2 ?_
            have := (inb m).mp k i (by omega)
            rw [c, Int.mul_zero, Int.add_zero] at this
            exact this
        · exact .inl ⟨_, h.step c fun m => place_in c m⟩
      · exact .inr h
  rcases step n (Nat.le_refl _) with ⟨o, h⟩ | h
  · obtain ⟨j0, hj0, hj1⟩ := hne
    cases o with
    | none => exact absurd (h j0 hj0).1 hj1
    | some p =>
      by_cases c : p.1 ≤ p.2
      · exact ⟨some p, fun m => by rw [inb, h.2]; exact ⟨fun h => ⟨p, rfl, h⟩, fun ⟨p2, h, h2⟩ => by cases h; exact h2⟩, fun p2 h => by cases h; exact c⟩
      · exact ⟨none, fun m => by rw [inb, h.2]; exact ⟨fun h => by omega, fun ⟨p2, h, h2⟩ => by cases h⟩, fun p2 h => by cases h⟩
  · exact ⟨none, fun m => ⟨fun k => absurd k (h m), fun ⟨p2, h, h2⟩ => by cases h⟩, fun p2 h => by cases h⟩
theorem row_ne {n : Nat} {rows : Mat} {k : Nat} (hs : Sq n n rows) (hd : detN n rows ≠ 0) (hk : k < n) : ∃ j, j < n ∧ (rows.getD k []).getD j 0 ≠ 0 := by
  refine Classical.byContradiction fun hn => hd ?_
  have e : rows.getD k [] = List.replicate n 0 := getD_ext (hs.getD hk) List.length_replicate fun c hc => by
    have : ¬ (rows.getD k []).getD c 0 ≠ 0 := fun h => hn ⟨c, hc, h⟩
    rw [Classical.not_not.mp this, List.getD_eq_getElem?_getD, List.getElem?_replicate, if_pos hc]; rfl
  have h := set_same (getD_some (rows := rows) (k := k) (by rw [hs.1]; exact hk))
  rw [e] at h
  rw [← h]
  exact det_zero_row hs hk
theorem box_dot {lo hi b x : List Int} : ∀ n, (∀ j, j < n → lo.getD j 0 ≤ x.getD j 0 ∧ x.getD j 0 ≤ hi.getD j 0) → dnS n b lo hi ≤ (sumR n fun k => b.getD k 0 * x.getD k 0) ∧ (sumR n fun k => b.getD k 0 * x.getD k 0) ≤ upS n b lo hi
  | 0, _ => ⟨Int.le_refl _, Int.le_refl _⟩
  | n + 1, h => by
    obtain ⟨h1, h2⟩ := box_dot (b := b) n fun j hj => h j (by omega)
    obtain ⟨a1, a2⟩ := h n (by omega)
    have key : min (b.getD n 0 * lo.getD n 0) (b.getD n 0 * hi.getD n 0) ≤ b.getD n 0 * x.getD n 0 ∧ b.getD n 0 * x.getD n 0 ≤ max (b.getD n 0 * lo.getD n 0) (b.getD n 0 * hi.getD n 0) := by
      by_cases c : 0 ≤ b.getD n 0
      · have m1 := Int.mul_le_mul_of_nonneg_left a1 c
        have m2 := Int.mul_le_mul_of_nonneg_left a2 c
        omega
      · have m1 := Int.mul_le_mul_of_nonpos_left (a := b.getD n 0) (by omega) a1
        have m2 := Int.mul_le_mul_of_nonpos_left (a := b.getD n 0) (by omega) a2
        omega
    exact ⟨Int.add_le_add h1 key.1, Int.add_le_add h2 key.2⟩
/-- the multiples of a sum within bounds are within theirs -/
theorem mult_in {n i : Nat} {rows : Mat} {lo hi x : List Int} (h4 : n ≤ 4) (hs : Sq n n rows) (hd : detN n rows ≠ 0) (hi2 : i < n) (hx : Span n rows x) (hb : InB n lo hi x) : lo_ n rows lo hi i ≤ Fd n rows i x / detN n rows ∧ Fd n rows i x / detN n rows ≤ hi_ n rows lo hi i := by
  have lx := hx.len hs
  have hdv : detN n rows ∣ Fd n rows i x := hx.dvd h4 hs hi2
  refine (loM_iff hd).mpr ?_
  rw [Int.mul_ediv_cancel' hdv]
  show dnS n _ lo hi ≤ detN n (rows.set i x) ∧ detN n (rows.set i x) ≤ _
  rw [← back_dot h4 hs hi2 lx, dot_sumR n _ _ (backR_len ..) lx]
  exact box_dot n hb
theorem span_suf {n : Nat} {rows : Mat} {x : List Int} (h4 : n ≤ 4) (hs : Sq n n rows) (hd : detN n rows ≠ 0) (hx : Span n rows x) : x = sufC n rows (fun i => Fd n rows i x / detN n rows) n := by
  refine Fd_inj h4 hs hd (hx.len hs) (sufC_len hs n (Nat.le_refl _)) fun i hi => ?_
  rw [Fd_suf h4 hs hi n (Nat.le_refl _), if_pos (by omega), Int.ediv_mul_cancel (show detN n rows ∣ Fd n rows i x from hx.dvd h4 hs hi)]
theorem allW_mem {n : Nat} {rows : Mat} {lo hi x : List Int} (n0 : 0 < n) (h4 : n ≤ 4) (hs : Sq n n rows) (hd : detN n rows ≠ 0) : x ∈ allW n rows lo hi ↔ Span n rows x ∧ InB n lo hi x := by
  have hl := hs.1
  unfold allW
  rw [List.mem_flatMap]
  constructor
  · rintro ⟨q, hq, hx⟩
    obtain ⟨m, m1, m2, rfl⟩ := runL_mem.mp hx
    obtain ⟨h1, h2⟩ := strL_mem.mp hq
    obtain ⟨l1, s1, _⟩ := sumsT_in h4 hs (by omega) h1
    obtain ⟨o, ho⟩ := strP_ex (lo := lo) (hi := hi) l1 (hs.getD n0) (row_ne hs hd n0)
    have e := strO_eq ho
    rw [h2] at e
    exact ⟨.add _ s1 (getD_mem (by omega)), (ho.1 m).mpr ⟨_, e, m1, m2⟩⟩
  · rintro ⟨h1, h2⟩
    have e := span_suf h4 hs hd h1
    obtain ⟨k, rfl⟩ : ∃ k, n = k + 1 := ⟨n - 1, by omega⟩
    have e2 : x = vAdd (sufC (k + 1) rows (fun i => Fd (k + 1) rows i x / detN (k + 1) rows) k) (Fd (k + 1) rows 0 x / detN (k + 1) rows) (rows.getD 0 []) := by
      refine e.trans ?_
      show vAdd _ _ _ = _
      rw [show k + 1 - 1 - k = 0 by omega]
    generalize hy : sufC (k + 1) rows (fun i => Fd (k + 1) rows i x / detN (k + 1) rows) k = s at e2
    have hm : s ∈ sumsT (k + 1) rows lo hi k := (sumsT_mem k (by omega)).mpr ⟨_, fun i _ hi2 => mult_in h4 hs hd hi2 h1 h2, hy.symm⟩
    obtain ⟨l1, _, _⟩ := sumsT_in h4 hs (by omega) hm
    obtain ⟨o, ho⟩ := strP_ex (lo := lo) (hi := hi) l1 (hs.getD n0) (row_ne hs hd n0)
    rw [e2] at h2
    obtain ⟨p, ep, p1, p2⟩ := (ho.1 _).mp h2
    refine ⟨(s, p.1, p.2), strL_mem.mpr ⟨hm, ?_⟩, runL_mem.mpr ⟨_, p1, p2, e2⟩⟩
    rw [← strO_eq ho, ep]
theorem nodup_filterMap {α β : Type} {f : α → Option β} (hf : ∀ a b z, f a = some z → f b = some z → a = b) : ∀ {l : List α}, l.Nodup → (l.filterMap f).Nodup
  | [], _ => List.nodup_nil
  | x :: l, h => by
    obtain ⟨a1, a2⟩ := List.nodup_cons.mp h
    rw [List.filterMap_cons]
    split
    · exact nodup_filterMap hf a2
    · rename_i z hz
      refine List.nodup_cons.mpr ⟨fun hm => ?_, nodup_filterMap hf a2⟩
      obtain ⟨y, hy, hy2⟩ := List.mem_filterMap.mp hm
      exact a1 (hf _ _ _ hz hy2 ▸ hy)
theorem allW_nodup {n : Nat} {rows : Mat} {lo hi : List Int} (n0 : 0 < n) (h4 : n ≤ 4) (hs : Sq n n rows) (hd : detN n rows ≠ 0) : (allW n rows lo hi).Nodup := by
  unfold allW
  refine nodup_flat (nodup_filterMap (fun a b z h1 h2 => ?_) (sumsT_nodup h4 hs hd _ (by omega))) (fun q hq => ?_) fun q hq q' hq' z h1 h2 => ?_
  · obtain ⟨p, _, e1⟩ := Option.map_eq_some_iff.mp h1
    obtain ⟨p', _, e2⟩ := Option.map_eq_some_iff.mp h2
    subst e1
    exact (congrArg Prod.fst e2).symm
  · exact nodup_maps h4 hs hd n0 (sumsT_in h4 hs (by omega) (strL_mem.mp hq).1).1
  · obtain ⟨m, m1, m2, rfl⟩ := runL_mem.mp h1
    obtain ⟨m', m1', m2', h2⟩ := runL_mem.mp h2
    obtain ⟨a1, a2⟩ := strL_mem.mp hq
    obtain ⟨b1, b2⟩ := strL_mem.mp hq'
    obtain ⟨l1, _, f1⟩ := sumsT_in h4 hs (by omega) a1
    obtain ⟨l2, _, f2⟩ := sumsT_in h4 hs (by omega) b1
    obtain ⟨e, _⟩ := vAdd_split h4 hs hd n0 l1 l2 (f1 _ (by omega)) (f2 _ (by omega)) h2
    rw [e, b2] at a2
    have := Option.some.inj a2
    exact Prod.ext e this.symm
end L3
set_option pp.maxSteps 600
namespace L3
open PySem PySem.Spec PyProof.Rows L2
local macro_rules | `(tactic| wtm_at "sh") => `(tactic| conv => whnf)
/-! ## all sums within bounds: the walk -/
structure BoxOk (n b : Nat) (rows : Mat) (lo hi : List Int) : Prop where
  sq : Sq n n rows
  n0 : 0 < n
  h4 : n ≤ 4
  hd : detN n rows ≠ 0
  zr : ∀ r ∈ rows, SzL b r
  hb : b ≤ 2200
  ll : lo.length = n
  lh : hi.length = n
  zlo : SzL b lo
  zhi : SzL b hi
  rng : ∀ i, i < n → -(2 ^ 61) ≤ lo_ n rows lo hi i ∧ lo_ n rows lo hi i ≤ 2 ^ 61 ∧ -(2 ^ 61) ≤ hi_ n rows lo hi i ∧ hi_ n rows lo hi i ≤ 2 ^ 61
  cnt : ∀ t, t < n → cntT n rows lo hi t < sizeLine
def stO (u : List Int) : Option (Int × Int) → List (List Int × Int × Int)
  | none => []
  | some p => [(u, p.1, p.2)]
theorem strL_snoc {n i : Nat} {lo hi r u : List Int} {S : Mat} (hu : S[i]? = some u) : strL n lo hi r (S.take (i + 1)) = strL n lo hi r (S.take i) ++ stO u (strO n lo hi r u) := by
  unfold strL
  rw [List.take_add_one, hu, List.filterMap_append]
  congr 1
  show List.filterMap _ [u] = _
  cases e : strO n lo hi r u with
  | none => rw [List.filterMap_cons_none (by rw [e]; rfl)]; rfl
  | some p => rw [List.filterMap_cons_some (by rw [e]; rfl)]; rfl
/-- a stretch's ends are within reach -/
theorem strL_rng {n b : Nat} {rows : Mat} {lo hi : List Int} {q : List Int × Int × Int} (B : BoxOk n b rows lo hi) (hq : q ∈ strL n lo hi (rows.getD 0 []) (sumsT n rows lo hi (n - 1))) : q.2.1 ≤ q.2.2 ∧ q.1.length = n ∧ -(2 ^ 61) ≤ q.2.1 ∧ q.2.2 ≤ 2 ^ 61 := by
  have hs := B.sq
  obtain ⟨h1, h2⟩ := strL_mem.mp hq
  obtain ⟨l1, s1, f1⟩ := sumsT_in B.h4 hs (by omega) h1
  obtain ⟨o, ho⟩ := strP_ex (lo := lo) (hi := hi) l1 (hs.getD B.n0) (row_ne hs B.hd B.n0)
  have e := strO_eq ho
  rw [h2] at e
  have le := ho.2 _ e
  have key : ∀ m, q.2.1 ≤ m → m ≤ q.2.2 → -(2 ^ 61) ≤ m ∧ m ≤ 2 ^ 61 := fun m m1 m2 => by
    have hb := (ho.1 m).mpr ⟨_, e, m1, m2⟩
    have n0 := B.n0
    have hx : Span n rows (vAdd q.1 m (rows.getD 0 [])) := .add _ s1 (getD_mem (by rw [hs.1]; exact n0))
    have h := mult_in B.h4 hs B.hd n0 hx hb
    have hf : Fd n rows 0 (vAdd q.1 m (rows.getD 0 [])) / detN n rows = m := by
      rw [Fd_lin hs n0 l1 (hs.getD n0), Fd_row B.h4 hs n0 n0, if_pos rfl]
      by_cases c : n = 1
      · subst c
        have e0 : sumsT 1 rows lo hi 0 = [List.replicate 1 0] := rfl
        have h1 : q.1 ∈ sumsT 1 rows lo hi 0 := h1
        rw [e0, List.mem_singleton] at h1
        rw [h1, Fd_zero hs (by omega), Int.zero_add, Int.mul_ediv_cancel _ B.hd]
      · rw [f1 0 (by omega), Int.zero_add, Int.mul_ediv_cancel _ B.hd]
    rw [hf] at h
    obtain ⟨r1, _, _, r4⟩ := B.rng 0 n0
    exact ⟨Int.le_trans r1 h.1, Int.le_trans h.2 r4⟩
  exact ⟨le, l1, (key _ (Int.le_refl _) le).1, (key _ le (Int.le_refl _)).2⟩
def L1_stretches : TS3 := (xFor (xR3 (x2 kSub (x1 cLen (xView 0)) (xC (.int 1))) (xC (.int 0)) (xNeg (xC (.int 1)))) (xGName 6) (xSeq (xAsg (xD (xFz (xCall sp_multiples xNoE (xArg (x2 cIx (xView 4) (xView 6)) (xArg (xView 3) (xArg (xView 1) (xArg (xView 2) xANil))))))) (xGTup 2 (xGCons (xGName 7) (xGCons (xGName 8) xGNil))))
  (xSeq (xAsg (xCall sp_put_to xNoE (xArg (xView 5) (xArg (x2 cIx (xView 0) (xView 6)) (xArg (xView 7) (xArg (xView 8) xANil))))) (xGName 5)) (xFzS 5 xNext))))
def L2_stretches : TS3 := (xFor (xSeqI (xView 5)) (xGName 10) (xSeq (xAsg (xCall sp_stretch_in xNoE (xArg (xView 10) (xArg (x2 cIx (xView 0) (xC (.int 0))) (xArg (xView 1) (xArg (xView 2) xANil))))) (xGName 11))
  (xIfS (xTest (x2 kNotN (xView 11) (xC .none))) (xDrop (xD (xFz (xApp 9 (xTup (xCons (xMove 10) (xCons (xD (x2 cIx (xView 11) (xC (.int 0)))) (xCons (xD (x2 cIx (xView 11) (xC (.int 1)))) xNil)))))))) xNext)))
def N_stretches : List Str := ["rows", "lows", "highs", "whole", "back", "sums", "at", "least", "most", "found", "start", "stretch"]
def body_stretches : TS3 := (xSeq (xAsg (xCall (sp_determinant 8) xNoE (xArg (xView 0) xANil)) (xGName 3))
  (xSeq (xAsg (xCall sp_turned_back xNoE (xArg (xView 0) xANil)) (xGName 4))
  (xFzS 4 (xSeq (xAsg (xLst (xCons (xD (xFz (x2 cMul (xFz (xLst (xCons (xD (xC (.int 0))) xNil))) (x1 cLen (xView 0))))) xNil)) (xGName 5))
  (xFzS 5 (xSeq L1_stretches
  (xSeq (xAsg (xLst xNil) (xGName 9))
  (xSeq L2_stretches
  (xRet (xMove 9))))))))))
abbrev stD (q : List Int × Int × Int) : PyData := .tuple [rowD q.1, .int q.2.1, .int q.2.2]
def sp_stretches : Sp3 := fun ts Q _ => ∃ rows n lo hi b, ts = [.d (matL rows), .d (rowD lo), .d (rowD hi)] ∧ BoxOk n b rows lo hi ∧ ∀ p, Q (.own p ((strL n lo hi (rows.getD 0 []) (sumsT n rows lo hi (n - 1))).map fun q => T.d (stD q))) ts
theorem v_stretches (ts Q E) (h : sp_stretches ts Q E) : body_stretches { nx := fun r => finOk ts r ∧ Q (.d .none) (finF ts r), rt := fun x r => finOk ts r ∧ Q x (finF ts r) } (start3 N_stretches ts) := by
  obtain ⟨rows, n, lo, hi, b, rfl, B, q⟩ := h
  have hb2 : 1000 < sizeLine := by decide
  have hs := B.sq
  have hl := hs.1
  have n0 := B.n0
  have h4 := B.h4
  have hb := B.hb
  have ln : (rows.map rowD).length = rows.length := List.length_map ..
  have zb : ∀ i, i < n → SzL (3 * (b + 2) + 1) (backR n rows i) := fun i hi => backR_sz h4 hs hi B.zr
  have zd : Sz 8990 (detN n rows) := (det_Sz h4 hs B.zr).mono (by have : n * (b + 2) ≤ 4 * (b + 2) := Nat.mul_le_mul_right _ h4; omega)
  refine ⟨nd0, rows, n, b, rfl, hs, by omega, h4, B.zr, by omega, nd0, rows, n, b, rfl, hs, h4, B.zr, by omega, fun p1 => ?_⟩
  refine ⟨nvs_mapT _ _ fun _ _ => rfl, sz 1, fun p2 => ⟨rfl, by omega, ?_, ?_, fun p3 => ⟨nvs_d _, sz 1, fun p4 => ⟨rfl, ?_⟩⟩⟩⟩
  · show 1 * (((rows.map rowD).length : Int)).toNat ≤ sizeLine
    omega
  · show ((rows.map rowD).length : Int) < 2 ^ 63
    omega
  have eb : fz (T.own p1 ((List.range n).map fun i => T.d (rowD (backR n rows i)))) = .list ((List.range n).map fun i => rowD (backR n rows i)) := fz_own p1 (fun i => rowD (backR n rows i)) _
  have es : fz (T.own p4 [T.d (fz (T.own p3 ((List.replicate ((rows.map rowD).length : Int).toNat (fzs [T.d (PyData.int 0)])).flatten.map T.d)))]) = matL (sumsT n rows lo hi 0) := by
    rw [fz_outs, show ((rows.map rowD).length : Int).toNat = n by omega]
    show PyData.list [PyData.list _] = PyData.list [PyData.list _]
    rw [List.map_replicate, show (fzs [T.d (PyData.int 0)]) = [PyData.int 0] from rfl, List.flatten_replicate_singleton]
  refine ⟨rfl, by omega, fun i t => ∃ bk sm s6 s7 s8, t = [some (.d (matL rows)), some (.d (rowD lo)), some (.d (rowD hi)), some (.d (.int (detN n rows))), some (.d bk), some (.d sm), s6, s7, s8, none, none, none] ∧ bk = .list ((List.range n).map fun i => rowD (backR n rows i)) ∧ sm = matL (sumsT n rows lo hi i) ∧ i ≤ n - 1, ⟨_, _, _, _, _, rfl, eb, es, by omega⟩, fun i x t hx hW => ?_, fun t hW => ?_⟩
  · obtain ⟨bk, sm, s6, s7, s8, rfl, rfl, rfl, hi2⟩ := hW
    obtain ⟨hi3, rfl⟩ := rangeD_get hx
    have hi4 : i < n - 1 := by
      have : i < (((rows.map rowD).length : Int) - 1 - 0).toNat := hi3
      omega
    have ei : ((rows.map rowD).length : Int) - 1 - (i : Nat) = ((n - 1 - i : Nat) : Int) := by omega
    have hk : n - 1 - i < n := by omega
    obtain ⟨r1, r2, r3, r4⟩ := B.rng (n - 1 - i) hk
    have rowAt : getI (rows.map rowD) (((rows.map rowD).length : Int) - 1 - (i : Nat)) = some (rowD (rows.getD (n - 1 - i) [])) := getI_at ei (by rw [List.getElem?_map, getD_some (rows := rows) (by omega)]; rfl)
    refine ⟨_, getI_at ei (by rw [List.getElem?_map, List.getElem?_range hk]; rfl), nd0, n, _, _, lo, hi, 3 * (b + 2) + 1, rfl, h4, backR_len .., B.ll, B.lh, zb _ hk, B.zlo.mono (by omega), B.zhi.mono (by omega), by omega, B.hd, zd, rfl, ?_⟩
    refine ⟨_, rowAt, nd0, n, sumsT n rows lo hi i, _, _, _, b, rfl, h4, fun s hm => (sumsT_in h4 hs (by omega) hm).1, hs.getD hk, B.zr _ (getD_mem (by omega)), by omega, r1, r4, r2, r3, ?_, fun p5 => ⟨nvs_mapT _ _ fun _ _ => rfl, _, _, _, _, _, rfl, rfl, fz_own p5 rowD _, by omega⟩⟩
    rw [sumsT_len]
    exact B.cnt (i + 1) (by omega)
  · obtain ⟨bk, sm, s6, s7, s8, rfl, rfl, rfl, hi2⟩ := hW
    have en : (rangeD (((rows.map rowD).length : Int) - 1) (((rows.map rowD).length : Int) - 1 - 0).toNat).length = n - 1 := by rw [rangeD_len]; omega
    rw [en]
    generalize hS : sumsT n rows lo hi (n - 1) = S at *
    have lS : ∀ s ∈ S, s.length = n := fun s hm => (sumsT_in h4 hs (by omega) (hS ▸ hm)).1
    refine ⟨sz 0, fun p5 => ⟨fun i t => ∃ L s6 s7 s8 s10 s11, t = [some (.d (matL rows)), some (.d (rowD lo)), some (.d (rowD hi)), some (.d (.int (detN n rows))), some (.d (.list ((List.range n).map fun i => rowD (backR n rows i)))), some (.d (matL S)), s6, s7, s8, some (.own p5 L), s10, s11] ∧ L = ((strL n lo hi (rows.getD 0 []) (S.take i)).map fun q => T.d (stD q)) ∧ i ≤ S.length, ⟨_, _, _, _, _, _, rfl, rfl, by omega⟩, fun i x t hx hW => ?_, fun t hW => ?_⟩⟩
    · obtain ⟨L, s6, s7, s8, s10, s11, rfl, rfl, hi3⟩ := hW
      obtain ⟨u, hu, rfl⟩ := get_fun hx
      have hi4 : i < S.length := (List.getElem?_eq_some_iff.mp hu).1
      have lu := lS u (List.mem_of_getElem? hu)
      have rowAt : getI (rows.map rowD) 0 = some (rowD (rows.getD 0 [])) := getI_at (k := 0) rfl (by rw [List.getElem?_map, getD_some (rows := rows) (by omega)]; rfl)
      refine ⟨_, rowAt, nd0, n, u, _, lo, hi, rfl, h4, lu, hs.getD n0, B.ll, B.lh, (B.zr _ (getD_mem (by omega))).mono (by omega), row_ne hs B.hd n0, fun o h1 h2 => ?_⟩
      have eo := strO_eq ⟨h1, h2⟩
      have et : strL n lo hi (rows.getD 0 []) (S.take (i + 1)) = strL n lo hi (rows.getD 0 []) (S.take i) ++ stO u o := by rw [strL_snoc hu, ← eo]
      cases o with
      | none =>
        refine ⟨⟨⟩, nofun, fun _ => ⟨_, _, _, _, _, _, rfl, ?_, by omega⟩⟩
        rw [et]
        exact (congrArg _ (List.append_nil _)).symm
      | some p =>
        refine ⟨⟨⟩, fun _ => ⟨_, rfl, _, rfl, sz 3, ?_, _, _, _, _, _, _, rfl, ?_, by omega⟩, nofun⟩
        · rw [List.length_map]
          refine Nat.lt_of_le_of_lt (List.length_filterMap_le _ _) ?_
          rw [List.length_take, ← hS, sumsT_len]
          exact Nat.lt_of_le_of_lt (Nat.min_le_right _ _) (B.cnt _ (by omega))
        · rw [et, List.map_append]; rfl
    · obtain ⟨L, s6, s7, s8, s10, s11, rfl, rfl, hi3⟩ := hW
      rw [List.length_map, List.take_length]
      exact ⟨⟨⟩, q p5⟩
def L1_all_within : TS3 := (xFor (xR2 (xView 5) (x2 kAdd (xView 6) (xC (.int 1)))) (xGName 7) (xDrop (xApp 3 (xD (x1 cTup (xFz (xCall sp_taken_off xNoE (xArg (xView 4) (xArg (x2 kSub (xC (.int 0)) (xView 7)) (xArg (x2 cIx (xView 0) (xC (.int 0))) xANil))))))))))
def L2_all_within : TS3 := (xFor (xSeqI (xFz (xCall sp_stretches xNoE (xArg (xView 0) (xArg (xView 1) (xArg (xView 2) xANil)))))) (xGTup 3 (xGCons (xGName 4) (xGCons (xGName 5) (xGCons (xGName 6) xGNil)))) L1_all_within)
def N_all_within : List Str := ["rows", "lows", "highs", "found", "start", "least", "most", "many"]
def body_all_within : TS3 := (xSeq (xAsg (xLst xNil) (xGName 3))
  (xSeq L2_all_within
  (xRet (xMove 3))))
def sp_all_within : Sp3 := fun ts Q _ => ∃ rows n lo hi b, ts = [.d (matL rows), .d (rowD lo), .d (rowD hi)] ∧ BoxOk n b rows lo hi ∧ (allW n rows lo hi).length < sizeLine ∧ ∀ p, Q (.own p ((allW n rows lo hi).map fun r => T.d (rowT r))) ts
theorem v_all_within (ts Q E) (h : sp_all_within ts Q E) : body_all_within { nx := fun r => finOk ts r ∧ Q (.d .none) (finF ts r), rt := fun x r => finOk ts r ∧ Q x (finF ts r) } (start3 N_all_within ts) := by
  obtain ⟨rows, n, lo, hi, b, rfl, B, hlen, q⟩ := h
  have hs := B.sq
  have hl := hs.1
  refine ⟨sz 0, fun p0 => ⟨nd0, rows, n, lo, hi, b, rfl, B, fun p1 => ?_⟩⟩
  generalize hQ : strL n lo hi (rows.getD 0 []) (sumsT n rows lo hi (n - 1)) = qs
  have hA : allW n rows lo hi = qs.flatMap (runL (rows.getD 0 [])) := by rw [← hQ]; rfl
  have ex : fz (T.own p1 (qs.map fun q => T.d (stD q))) = .list (qs.map stD) := fz_own p1 stD qs
  refine ⟨nvs_mapT _ _ fun _ _ => rfl, ?_⟩
  rw [ex]
  refine ⟨fun i t => ∃ L s4 s5 s6 s7, t = [some (.d (matL rows)), some (.d (rowD lo)), some (.d (rowD hi)), some (.own p0 L), s4, s5, s6, s7] ∧ L = (((qs.take i).flatMap (runL (rows.getD 0 []))).map fun r => T.d (rowT r)) ∧ i ≤ qs.length, ⟨_, _, _, _, _, rfl, rfl, by omega⟩, fun i x t hx hW => ?_, fun t hW => ?_⟩
  · obtain ⟨L, s4, s5, s6, s7, rfl, rfl, hi2⟩ := hW
    obtain ⟨u, hu, rfl⟩ := get_fun hx
    have hi4 : i < qs.length := (List.getElem?_eq_some_iff.mp hu).1
    obtain ⟨g1, g2, g3, g4⟩ := strL_rng B (q := u) (by rw [hQ]; exact List.mem_of_getElem? hu)
    have rowAt : getI (rows.map rowD) 0 = some (rowD (rows.getD 0 [])) := getI_at (k := 0) rfl (by rw [List.getElem?_map, getD_some (rows := rows) (by have := B.n0; omega)]; rfl)
    have tk : (qs.take (i + 1)).flatMap (runL (rows.getD 0 [])) = (qs.take i).flatMap (runL (rows.getD 0 [])) ++ runL (rows.getD 0 []) u := by
      rw [List.take_add_one, hu, List.flatMap_append]
      simp
    have lt : ((qs.take (i + 1)).flatMap (runL (rows.getD 0 []))).length < sizeLine := by
      refine Nat.lt_of_le_of_lt ?_ hlen
      rw [hA]
      conv => rhs; rw [← List.take_append_drop (i + 1) qs, List.flatMap_append, List.length_append]
      omega
    refine ⟨rfl, ⟨by omega, by omega, by omega, by omega⟩, fun k t => ∃ L s7, t = [some (.d (matL rows)), some (.d (rowD lo)), some (.d (rowD hi)), some (.own p0 L), some (.d (rowD u.1)), some (.d (.int u.2.1)), some (.d (.int u.2.2)), s7] ∧ L = (((qs.take i).flatMap (runL (rows.getD 0 [])) ++ (List.range k).map fun i => vAdd u.1 (u.2.1 + (i : Nat)) (rows.getD 0 [])).map fun r => T.d (rowT r)) ∧ k ≤ (u.2.2 + 1 - u.2.1).toNat, ⟨_, _, rfl, by simp, by omega⟩, fun k x t hx hW => ?_, fun t hW => ?_⟩
    · obtain ⟨L, s7, rfl, rfl, hk⟩ := hW
      obtain ⟨hk1, rfl⟩ := rangeI_get hx
      have sm : Sz 64 (0 - (u.2.1 + (k : Nat))) := by unfold Sz; omega
      refine ⟨_, rowAt, nd0, false, false, u.1, rows.getD 0 [], _, 64, b, rfl, sm, fun c hc => (B.zr _ (getD_mem (by have := B.n0; omega))).mem hc, by have := B.hb; omega, by have := B.h4; omega, by rw [hs.getD B.n0, g2], fun pa => ⟨nvs_map _ _, ?_⟩⟩
      rw [show fz (T.own pa ((vAdd u.1 (-(0 - (u.2.1 + (k : Nat)))) (rows.getD 0 [])).map fun a => T.d (.int a))) = rowD (vAdd u.1 (-(0 - (u.2.1 + (k : Nat)))) (rows.getD 0 [])) from fz_own _ _ _, show -(0 - (u.2.1 + (k : Int))) = u.2.1 + (k : Int) by omega]
      refine ⟨?_, _, _, rfl, ?_, by omega⟩
      · refine Nat.lt_of_lt_of_le ?_ (Nat.le_of_lt lt)
        rw [tk, List.length_map, List.length_append, List.length_append, List.length_map, List.length_range]
        unfold runL
        rw [List.length_map, List.length_range]
        omega
      · simp only [List.range_succ, List.map_append, List.map_cons, List.map_nil, List.append_assoc]
    · obtain ⟨L, s7, rfl, rfl, hk⟩ := hW
      refine ⟨_, _, _, _, _, rfl, ?_, by omega⟩
      rw [rangeI_len, tk]; rfl
  · obtain ⟨L, s4, s5, s6, s7, rfl, rfl, hi2⟩ := hW
    rw [List.length_map, List.take_length]
    rw [hA] at q
    exact ⟨⟨⟩, q p0⟩
end L3
set_option pp.maxSteps 600
namespace L3
open PySem PySem.Spec PyProof.Rows L2
/-! ## how great the multiples of short rows are -/
theorem sq_le {a b : Int} (hb : 0 ≤ b) (h : a * a ≤ b * b) : (a.natAbs : Int) ≤ b := by
  have e : (a.natAbs : Int) * a.natAbs = a * a := Int.natAbs_mul_self
  rcases Int.lt_or_le b (a.natAbs : Int) with c | c
  · have h2 : b * b < (a.natAbs : Int) * a.natAbs := Int.lt_of_le_of_lt (Int.mul_le_mul_of_nonneg_left (Int.le_of_lt c) hb) (Int.mul_lt_mul_of_pos_right c (by omega))
    omega
  · exact c
theorem mu_cs {n k : Nat} {rows : Mat} {x r : List Int} (h4 : n ≤ 4) (hs : Sq n n rows) (hd : ∀ a, a ≤ n → 0 < Dd rows a) (hk : k < n) (hx : x.length = n) (hr : r.length = n) (hp : 0 < Mu rows k r r) : Mu rows k x r * Mu rows k x r ≤ Mu rows k r r * Mu rows k x x := by
  have hl := hs.1
  have lx : (x.map (Mu rows k r r * ·)).length = n := by rw [List.length_map, hx]
  have lz : (vAdd (x.map (Mu rows k r r * ·)) (-Mu rows k x r) r).length = n := vAdd_len lx hr
  have h := mu_pos' h4 hs hd hk lz
  rw [Mu_linL (by omega) (by omega), Mu_linR (by omega) (by omega) (by omega), Mu_linR (by omega) (by omega) (by omega), Mu_scaleL (by omega), Mu_scaleR (by omega) (by omega), Mu_scaleL (by omega), Mu_scaleR (by omega) (by omega), Mu_symm (x := r) (y := x) (by omega) (by omega)] at h
  generalize Mu rows k r r = D at *
  generalize Mu rows k x r = M at *
  generalize Mu rows k x x = N at *
  have e : D * (D * N) + -M * (D * M) + -M * (D * M + -M * D) = D * (D * N - M * M) := by grind
  rw [e] at h
  rcases Int.lt_or_le (D * N - M * M) 0 with c | c
  · have := Int.mul_neg_of_pos_of_neg hp c
    omega
  · omega
theorem dot_cube {s : Int} : ∀ (x : List Int), (∀ a ∈ x, (a.natAbs : Int) ≤ s) → dot x x ≤ x.length * (s * s)
  | [], _ => by simp [dot]
  | a :: x, h => by
    have ih := dot_cube x fun b hb => h b (List.mem_cons_of_mem _ hb)
    have ha := h a (by simp)
    show a * a + dot x x ≤ ((x.length + 1 : Nat) : Int) * (s * s)
    have e : (a.natAbs : Int) * a.natAbs = a * a := Int.natAbs_mul_self
    have h1 : (a.natAbs : Int) * a.natAbs ≤ s * s := Int.le_trans (Int.mul_le_mul_of_nonneg_left ha (by omega)) (Int.mul_le_mul_of_nonneg_right ha (by omega))
    have e2 : ((x.length + 1 : Nat) : Int) * (s * s) = x.length * (s * s) + s * s := by
      rw [show ((x.length + 1 : Nat) : Int) = (x.length : Int) + 1 by omega, Int.add_mul, Int.one_mul]
    omega
theorem Mu_suf {n k : Nat} {rows : Mat} {c : Nat → Int} (h4 : n ≤ 4) (hs : Sq n n rows) (hk : k < n) : ∀ t, t ≤ n - k → Mu rows k (sufC n rows c t) (rows.getD k []) = sumR t fun u => c (n - 1 - u) * lam rows (n - 1 - u) k
  | 0, _ => by
    have hl := hs.1
    show Mu rows k (List.replicate n 0) _ = 0
    have e : (List.replicate n (0 : Int)) = (List.replicate n (0 : Int)).map (0 * ·) := by simp
    rw [e, Mu_scaleL (by omega), Int.zero_mul]
  | t + 1, h => by
    have hl := hs.1
    show Mu rows k (vAdd _ _ _) _ = sumR t _ + _
    rw [Mu_linL (by omega) (by rw [sufC_len hs t (by omega), hs.getD (by omega)]), Mu_suf h4 hs hk t (by omega), Mu_symm (x := rows.getD (n - 1 - t) []) (by omega) (by omega)]
    rfl
theorem Mu_sufAll {n k : Nat} {rows : Mat} {c : Nat → Int} (h4 : n ≤ 4) (hs : Sq n n rows) (hk : k < n) : ∀ t, t ≤ k → Mu rows k (sufC n rows c (n - k + t)) (rows.getD k []) = Mu rows k (sufC n rows c (n - k)) (rows.getD k [])
  | 0, _ => rfl
  | t + 1, h => by
    have hl := hs.1
    show Mu rows k (vAdd (sufC n rows c (n - k + t)) (c (n - 1 - (n - k + t))) (rows.getD (n - 1 - (n - k + t)) [])) _ = _
    rw [Mu_linL (by omega) (by rw [sufC_len hs _ (by omega), hs.getD (by omega)]), Mu_sufAll h4 hs hk t (by omega), Mu_altL (i := n - 1 - (n - k + t)) (by omega) (by omega) (by omega) (getD_some (by omega)), Int.mul_zero, Int.add_zero]
theorem scale_suf {n : Nat} {rows : Mat} {x : List Int} (h4 : n ≤ 4) (hs : Sq n n rows) (hd : detN n rows ≠ 0) (hx : x.length = n) : x.map (detN n rows * ·) = sufC n rows (fun i => Fd n rows i x) n := by
  refine Fd_inj h4 hs hd (by rw [List.length_map, hx]) (sufC_len hs n (Nat.le_refl _)) fun i hi => ?_
  rw [Fd_suf h4 hs hi n (Nat.le_refl _), if_pos (by omega)]
  show detN n (rows.set i _) = _
  rw [det_scale _ hs hi hx, Int.mul_comm]; rfl
theorem Fd_mu {n k : Nat} {rows : Mat} {x : List Int} (h4 : n ≤ 4) (hs : Sq n n rows) (hd : detN n rows ≠ 0) (hk : k < n) (hx : x.length = n) : detN n rows * Mu rows k x (rows.getD k []) = (sumR (n - 1 - k) fun u => Fd n rows (n - 1 - u) x * lam rows (n - 1 - u) k) + Fd n rows k x * Dd rows (k + 1) := by
  have hl := hs.1
  have e := Mu_scaleL (rows := rows) (a := k) (x := x) (y := rows.getD k []) (k := detN n rows) (by omega)
  rw [scale_suf h4 hs hd hx] at e
  have e2 := Mu_sufAll (c := fun i => Fd n rows i x) h4 hs hk k (Nat.le_refl _)
  rw [show n - k + k = n by omega] at e2
  rw [← e, e2, Mu_suf h4 hs hk _ (Nat.le_refl _), show n - k = (n - 1 - k) + 1 by omega]
  show sumR _ _ + _ = _
  congr 1
  show Fd n rows (n - 1 - (n - 1 - k)) x * lam rows (n - 1 - (n - 1 - k)) k = _
  rw [show n - 1 - (n - 1 - k) = k by omega, lam_self (getD_some (by omega))]
theorem sumR_abs {f : Nat → Int} : ∀ m, ((sumR m f).natAbs : Int) ≤ sumR m fun u => ((f u).natAbs : Int)
  | 0 => by show ((0 : Int).natAbs : Int) ≤ 0; omega
  | m + 1 => by
    have := sumR_abs (f := f) m
    show ((sumR m f + f m).natAbs : Int) ≤ (sumR m fun u => ((f u).natAbs : Int)) + ((f m).natAbs : Int)
    omega
theorem sumR_le {f g : Nat → Int} : ∀ m, (∀ u, u < m → f u ≤ g u) → sumR m f ≤ sumR m g
  | 0, _ => Int.le_refl _
  | m + 1, h => Int.add_le_add (sumR_le m fun u hu => h u (by omega)) (h m (by omega))
theorem sumR_mul {f : Nat → Int} {c : Int} : ∀ m, sumR m (fun u => c * f u) = c * sumR m f
  | 0 => by show (0 : Int) = c * 0; omega
  | m + 1 => by show sumR m _ + _ = c * (sumR m f + f m); rw [sumR_mul m, Int.mul_add]
/-- short rows, and how great a sum's multiples of them are -/
theorem Fd_bound {n : Nat} {rows : Mat} {x : List Int} {s : Int} {A E : Nat → Int} (h4 : n ≤ 4) (hs : Sq n n rows) (hd : detN n rows ≠ 0) (sh : ∀ i, i < n → ShB rows i) (hx : x.length = n) (hb : ∀ a ∈ x, (a.natAbs : Int) ≤ s)
    (hA : ∀ k, k < n → 0 ≤ A k ∧ 4 * (s * s) * Dd rows k ≤ A k * A k * Dd rows (k + 1)) (hE : ∀ t, t < n → 16 * A (n - 1 - t) + (sumR t fun u => E (n - 1 - u)) ≤ 2 * E (n - 1 - t)) : ∀ m t, t < m → m ≤ n → 8 * ((Fd n rows (n - 1 - t) x).natAbs : Int) ≤ ((detN n rows).natAbs : Int) * E (n - 1 - t)
  | 0, t, h, _ => by omega
  | m + 1, t, h, hm => by
    have hl := hs.1
    have ih := Fd_bound h4 hs hd sh hx hb hA hE m
    by_cases c : t < m
    · exact ih t c (by omega)
    · obtain rfl : t = m := by omega
      have hp := Dd_pos h4 hs hd
      have hk : n - 1 - t < n := by omega
      generalize hkk : n - 1 - t = k at *
      have d1 := hp (k + 1) (by omega)
      have d0 := hp k (by omega)
      have hr := getD_some (rows := rows) (k := k) (by omega)
      have lr := hs.getD hk
      have e0 := Dd_succ hr
      have cs := mu_cs h4 hs hp hk hx lr (by rw [← e0]; exact d1)
      have ml := mu_le h4 hs hp hx k (by omega) hk
      have dc := dot_cube x hb
      rw [hx] at dc
      obtain ⟨a0, a1⟩ := hA k hk
      rw [← e0] at cs
      have ss := sq_nonneg s
      have dc4 : dot x x ≤ 4 * (s * s) := Int.le_trans dc (Int.mul_le_mul_of_nonneg_right (by omega) ss)
      have c1 : Mu rows k x (rows.getD k []) * Mu rows k x (rows.getD k []) ≤ (Dd rows (k + 1) * A k) * (Dd rows (k + 1) * A k) := by
        have q1 : Dd rows k * dot x x ≤ Dd rows k * (4 * (s * s)) := Int.mul_le_mul_of_nonneg_left dc4 (Int.le_of_lt d0)
        have q2 : Dd rows k * (4 * (s * s)) ≤ A k * A k * Dd rows (k + 1) := by rw [Int.mul_comm]; exact a1
        have q3 : Dd rows (k + 1) * Mu rows k x x ≤ Dd rows (k + 1) * (A k * A k * Dd rows (k + 1)) := Int.mul_le_mul_of_nonneg_left (by omega) (Int.le_of_lt d1)
        have q4 : Dd rows (k + 1) * (A k * A k * Dd rows (k + 1)) = (Dd rows (k + 1) * A k) * (Dd rows (k + 1) * A k) := by grind
        omega
      have c2 := sq_le (Int.mul_nonneg (Int.le_of_lt d1) a0) c1
      have key := Fd_mu h4 hs hd hk hx
      rw [show n - 1 - k = t by omega] at key
      have c3 := sumR_abs (f := fun u => Fd n rows (n - 1 - u) x * lam rows (n - 1 - u) k) t
      have c4 : 2 * (sumR t fun u => ((Fd n rows (n - 1 - u) x * lam rows (n - 1 - u) k).natAbs : Int)) ≤ Dd rows (k + 1) * sumR t fun u => ((Fd n rows (n - 1 - u) x).natAbs : Int) := by
        rw [← sumR_mul, ← sumR_mul]
        refine sumR_le t fun u hu => ?_
        have l1 := sh (n - 1 - u) (by omega) k (by omega)
        rw [Int.natAbs_mul, Int.natCast_mul]
        have e1 : Dd rows (k + 1) * ((Fd n rows (n - 1 - u) x).natAbs : Int) = ((Fd n rows (n - 1 - u) x).natAbs : Int) * Dd rows (k + 1) := Int.mul_comm ..
        have e2 : 2 * (((Fd n rows (n - 1 - u) x).natAbs : Int) * ((lam rows (n - 1 - u) k).natAbs : Int)) = ((Fd n rows (n - 1 - u) x).natAbs : Int) * (2 * ((lam rows (n - 1 - u) k).natAbs : Int)) := by grind
        rw [e1, e2]
        exact Int.mul_le_mul_of_nonneg_left (by omega) (by omega)
      have c5 : 8 * (sumR t fun u => ((Fd n rows (n - 1 - u) x).natAbs : Int)) ≤ ((detN n rows).natAbs : Int) * sumR t fun u => E (n - 1 - u) := by
        rw [← sumR_mul, ← sumR_mul]
        exact sumR_le t fun u hu => ih u hu (by omega)
      have c6 : ((Fd n rows k x).natAbs : Int) * Dd rows (k + 1) ≤ ((detN n rows).natAbs : Int) * ((Mu rows k x (rows.getD k [])).natAbs : Int) + ((sumR t fun u => Fd n rows (n - 1 - u) x * lam rows (n - 1 - u) k).natAbs : Int) := by
        have e1 : ((Fd n rows k x).natAbs : Int) * Dd rows (k + 1) = ((Fd n rows k x * Dd rows (k + 1)).natAbs : Int) := by
          rw [Int.natAbs_mul, Int.natCast_mul, show ((Dd rows (k + 1)).natAbs : Int) = Dd rows (k + 1) by omega]
        have e2 : ((detN n rows).natAbs : Int) * ((Mu rows k x (rows.getD k [])).natAbs : Int) = ((detN n rows * Mu rows k x (rows.getD k [])).natAbs : Int) := by
          rw [Int.natAbs_mul, Int.natCast_mul]
        omega
      have c7 : ((detN n rows).natAbs : Int) * ((Mu rows k x (rows.getD k [])).natAbs : Int) ≤ ((detN n rows).natAbs : Int) * (Dd rows (k + 1) * A k) := Int.mul_le_mul_of_nonneg_left c2 (by omega)
      have he := hE t (by omega)
      rw [hkk] at he
      have c8 : ((detN n rows).natAbs : Int) * (16 * A k + sumR t fun u => E (n - 1 - u)) ≤ ((detN n rows).natAbs : Int) * (2 * E k) := Int.mul_le_mul_of_nonneg_left he (by omega)
      generalize ((Fd n rows k x).natAbs : Int) = f at *
      generalize ((detN n rows).natAbs : Int) = d at *
      generalize (sumR t fun u => ((Fd n rows (n - 1 - u) x).natAbs : Int)) = S at *
      generalize (sumR t fun u => E (n - 1 - u)) = SE at *
      generalize Dd rows (k + 1) = D at *
      generalize A k = a at *
      generalize E k = e at *
      have g1 : D * (8 * S) ≤ D * (d * SE) := Int.mul_le_mul_of_nonneg_left c5 (Int.le_of_lt d1)
      have g2 : 16 * (f * D) ≤ 16 * (d * (D * a)) + D * (8 * S) := by
        have : D * (8 * S) = 8 * (D * S) := by grind
        omega
      have g3 : D * (16 * f) ≤ D * (d * (16 * a + SE)) := by
        have : D * (d * (16 * a + SE)) = 16 * (d * (D * a)) + D * (d * SE) := by grind
        have : D * (16 * f) = 16 * (f * D) := by grind
        omega
      have g4 := Int.le_of_mul_le_mul_left g3 d1
      have : d * (2 * e) = 2 * (d * e) := by grind
      omega
end L3
set_option pp.maxSteps 600
namespace L3
open PySem PySem.Spec PyProof.Rows L2
/-! ## cubes of short rows -/
def Cube (s : Int) (x : List Int) : Prop := ∀ a ∈ x, (a.natAbs : Int) ≤ s
theorem rep_getD {n j : Nat} {a : Int} (h : j < n) : (List.replicate n a).getD j 0 = a := by
  rw [List.getD_eq_getElem?_getD, List.getElem?_replicate, if_pos h]; rfl
theorem inb_cube {n : Nat} {s : Int} {x : List Int} (hx : x.length = n) : InB n (List.replicate n (0 - s)) (List.replicate n s) x ↔ Cube s x := by
  unfold InB Cube
  constructor
  · intro h a ha
    obtain ⟨j, hj⟩ := List.getElem?_of_mem ha
    have hl := (List.getElem?_eq_some_iff.mp hj).1
    have := h j (by omega)
    rw [rep_getD (by omega), rep_getD (by omega), List.getD_eq_getElem?_getD, hj] at this
    simp only [Option.getD_some] at this
    omega
  · intro h j hj
    have := h (x.getD j 0) (by rw [List.getD_eq_getElem?_getD, List.getElem?_eq_getElem (by omega)]; exact List.getElem_mem _)
    rw [rep_getD hj, rep_getD hj]
    omega
def cornerR (n : Nat) (b : List Int) (s : Int) : List Int := (List.range n).map fun j => if 0 ≤ b.getD j 0 then s else -s
theorem cornerR_at {n j : Nat} {b : List Int} {s : Int} (h : j < n) : (cornerR n b s).getD j 0 = if 0 ≤ b.getD j 0 then s else -s := by
  unfold cornerR
  rw [List.getD_eq_getElem?_getD, List.getElem?_map, List.getElem?_range h]; rfl
theorem cornerR_cube {n : Nat} {b : List Int} {s : Int} (hs : 0 ≤ s) : Cube s (cornerR n b s) := fun a ha => by
  unfold cornerR at ha
  obtain ⟨j, _, rfl⟩ := List.mem_map.mp ha
  split <;> omega
theorem cornerR_len {n : Nat} {b : List Int} {s : Int} : (cornerR n b s).length = n := by unfold cornerR; rw [List.length_map, List.length_range]
theorem up_corner {n : Nat} {b : List Int} {s : Int} (hs : 0 ≤ s) : ∀ m, m ≤ n → upS m b (List.replicate n (0 - s)) (List.replicate n s) = (sumR m fun j => b.getD j 0 * (cornerR n b s).getD j 0) ∧ dnS m b (List.replicate n (0 - s)) (List.replicate n s) = - upS m b (List.replicate n (0 - s)) (List.replicate n s) ∧ 0 ≤ upS m b (List.replicate n (0 - s)) (List.replicate n s)
  | 0, _ => ⟨rfl, rfl, Int.le_refl _⟩
  | m + 1, h => by
    obtain ⟨h1, h2, h3⟩ := up_corner (b := b) hs m (Nat.le_of_succ_le h)
    have r1 : (List.replicate n (0 - s)).getD m 0 = 0 - s := rep_getD (by omega)
    have r2 : (List.replicate n s).getD m 0 = s := rep_getD (by omega)
    have r3 : (cornerR n b s).getD m 0 = if 0 ≤ b.getD m 0 then s else -s := cornerR_at (by omega)
    have e1 : upS (m + 1) b (List.replicate n (0 - s)) (List.replicate n s) = upS m b (List.replicate n (0 - s)) (List.replicate n s) + max (b.getD m 0 * (List.replicate n (0 - s)).getD m 0) (b.getD m 0 * (List.replicate n s).getD m 0) := rfl
    have e2 : dnS (m + 1) b (List.replicate n (0 - s)) (List.replicate n s) = dnS m b (List.replicate n (0 - s)) (List.replicate n s) + min (b.getD m 0 * (List.replicate n (0 - s)).getD m 0) (b.getD m 0 * (List.replicate n s).getD m 0) := rfl
    have e3 : (sumR (m + 1) fun j => b.getD j 0 * (cornerR n b s).getD j 0) = (sumR m fun j => b.getD j 0 * (cornerR n b s).getD j 0) + b.getD m 0 * (cornerR n b s).getD m 0 := rfl
    rw [r1, r2, show (0 : Int) - s = -s by omega, Int.mul_neg] at e1 e2
    rw [r3] at e3
    rw [show (0 : Int) - s = -s by omega] at h1 h2 h3 ⊢
    rw [e1, e2, e3, ← h1, h2]
    by_cases c : 0 ≤ b.getD m 0
    · rw [if_pos c]
      have := Int.mul_nonneg c hs
      omega
    · rw [if_neg c, Int.mul_neg]
      have : b.getD m 0 * s ≤ 0 := Int.mul_nonpos_of_nonpos_of_nonneg (by omega) hs
      omega
theorem lohi_bound {n : Nat} {w e : Int} {b lo hi : List Int} (hw : w ≠ 0) (h0 : 0 ≤ upS n b lo hi) (hd : dnS n b lo hi = - upS n b lo hi) (he : 8 * upS n b lo hi ≤ (w.natAbs : Int) * e) : -e ≤ 8 * loM n w b lo hi ∧ loM n w b lo hi ≤ 0 ∧ 0 ≤ hiM n w b lo hi ∧ 8 * hiM n w b lo hi ≤ e := by
  have z := (loM_iff (n := n) (b := b) (lo := lo) (hi := hi) (c := 0) hw).mpr (by rw [Int.mul_zero]; omega)
  have h1 := (loM_iff (n := n) (b := b) (lo := lo) (hi := hi) (c := loM n w b lo hi) hw).mp ⟨Int.le_refl _, by omega⟩
  have h2 := (loM_iff (n := n) (b := b) (lo := lo) (hi := hi) (c := hiM n w b lo hi) hw).mp ⟨by omega, Int.le_refl _⟩
  have key : ∀ c : Int, -upS n b lo hi ≤ w * c → w * c ≤ upS n b lo hi → 8 * (c.natAbs : Int) ≤ e := fun c a1 a2 => by
    have e1 : (w.natAbs : Int) * (c.natAbs : Int) = ((w * c).natAbs : Int) := by rw [Int.natAbs_mul, Int.natCast_mul]
    have e2 : (w.natAbs : Int) * (8 * (c.natAbs : Int)) = 8 * ((w.natAbs : Int) * (c.natAbs : Int)) := by grind
    exact Int.le_of_mul_le_mul_left (by omega) (show (0 : Int) < w.natAbs by omega)
  have k1 := key _ (by omega) h1.2
  have k2 := key _ (by omega) h2.2
  omega
def cbT (n : Nat) (E : Nat → Nat) : Nat → Nat
  | 0 => 1
  | t + 1 => cbT n E t * (2 * (E (n - 1 - t) / 8) + 1)
theorem cnt_le {n : Nat} {rows : Mat} {lo hi : List Int} {E : Nat → Nat} (h : ∀ k, k < n → -(E k : Int) ≤ 8 * lo_ n rows lo hi k ∧ 8 * hi_ n rows lo hi k ≤ E k) : ∀ t, t ≤ n → cntT n rows lo hi t ≤ cbT n E t
  | 0, _ => Nat.le_refl _
  | t + 1, ht => by
    obtain ⟨h1, h2⟩ := h (n - 1 - t) (by omega)
    exact Nat.mul_le_mul (cnt_le h t (by omega)) (by omega)
theorem len_sub {α : Type} : ∀ {l m : List α}, l.Nodup → (∀ x ∈ l, x ∈ m) → l.length ≤ m.length
  | [], _, _, _ => Nat.zero_le _
  | x :: l, m, h, hm => by
    obtain ⟨a1, a2⟩ := List.nodup_cons.mp h
    obtain ⟨m1, m2, rfl⟩ := List.append_of_mem (hm x (by simp))
    have ih := len_sub (l := l) (m := m1 ++ m2) a2 fun y hy => by
      have := hm y (List.mem_cons_of_mem _ hy)
      rw [List.mem_append, List.mem_cons] at this
      rcases this with c | rfl | c
      · exact List.mem_append_left _ c
      · exact absurd hy a1
      · exact List.mem_append_right _ c
    simp only [List.length_append, List.length_cons] at ih ⊢
    omega
theorem allW_le {n : Nat} {rows : Mat} {lo hi : List Int} (n0 : 0 < n) (h4 : n ≤ 4) (hs : Sq n n rows) (hd : detN n rows ≠ 0) : (allW n rows lo hi).length ≤ cntT n rows lo hi n := by
  rw [← sumsT_len]
  refine len_sub (allW_nodup n0 h4 hs hd) fun x hx => ?_
  obtain ⟨h1, h2⟩ := (allW_mem n0 h4 hs hd).mp hx
  exact (sumsT_mem n (Nat.le_refl _)).mpr ⟨_, fun i _ hi2 => mult_in h4 hs hd hi2 h1 h2, span_suf h4 hs hd h1⟩
/-! ### the spans of short rows fall slowly -/
theorem lov_step {n k : Nat} {rows : Mat} (hp : ∀ a, a ≤ n → 0 < Dd rows a) (sh : ∀ i, i < n → ShB rows i) (lo : ∀ k, k + 1 < n → standB rows k = true) (hk : k + 1 < n) : Dd rows (k + 1) * Dd rows (k + 1) ≤ 2 * (Dd rows (k + 2) * Dd rows k) := by
  have h := lo k hk
  unfold standB at h
  have h := of_decide_eq_true h
  have b := sh (k + 1) hk k (by omega)
  have d := hp (k + 1) (by omega)
  have l2 : 4 * (lam rows (k + 1) k * lam rows (k + 1) k) ≤ Dd rows (k + 1) * Dd rows (k + 1) := by
    rw [← Int.natAbs_mul_self (a := lam rows (k + 1) k)]
    have h1 : (2 * (lam rows (k + 1) k).natAbs) * (2 * (lam rows (k + 1) k).natAbs) ≤ (Dd rows (k + 1)).natAbs * (Dd rows (k + 1)).natAbs := Nat.mul_le_mul (by omega) (by omega)
    have h2 := Int.natAbs_mul_self (a := Dd rows (k + 1))
    have h3 : (2 * (lam rows (k + 1) k).natAbs) * (2 * (lam rows (k + 1) k).natAbs) = 4 * ((lam rows (k + 1) k).natAbs * (lam rows (k + 1) k).natAbs) := by grind
    omega
  rw [Int.mul_assoc] at h
  omega
theorem lov1 {n : Nat} {rows : Mat} (hp : ∀ a, a ≤ n → 0 < Dd rows a) (sh : ∀ i, i < n → ShB rows i) (lo : ∀ k, k + 1 < n → standB rows k = true) : ∀ k, k < n → Dd rows k * Dd rows 1 ≤ 2 ^ k * Dd rows (k + 1)
  | 0, _ => by rw [Dd_zero]; simp
  | k + 1, hk => by
    have ih := lov1 hp sh lo k (by omega)
    have st := lov_step hp sh lo hk
    have d0 := hp k (by omega)
    have d1 := hp (k + 1) (by omega)
    have g1 : Dd rows (k + 1) * (Dd rows k * Dd rows 1) ≤ Dd rows (k + 1) * (2 ^ k * Dd rows (k + 1)) := Int.mul_le_mul_of_nonneg_left ih (Int.le_of_lt d1)
    have g2 : (2 : Int) ^ k * (Dd rows (k + 1) * Dd rows (k + 1)) ≤ 2 ^ k * (2 * (Dd rows (k + 2) * Dd rows k)) := Int.mul_le_mul_of_nonneg_left st (Int.le_of_lt (Int.pow_pos (by decide)))
    have g3 : Dd rows k * (Dd rows (k + 1) * Dd rows 1) ≤ Dd rows k * (2 ^ (k + 1) * Dd rows (k + 2)) := by
      have e1 : Dd rows k * (2 ^ (k + 1) * Dd rows (k + 2)) = 2 ^ k * (2 * (Dd rows (k + 2) * Dd rows k)) := by rw [Int.pow_succ]; grind
      have e2 : Dd rows k * (Dd rows (k + 1) * Dd rows 1) = Dd rows (k + 1) * (Dd rows k * Dd rows 1) := by grind
      have e3 : Dd rows (k + 1) * (2 ^ k * Dd rows (k + 1)) = 2 ^ k * (Dd rows (k + 1) * Dd rows (k + 1)) := by grind
      omega
    exact Int.le_of_mul_le_mul_left g3 d0
/-- the cube is fit to be gone through -/
theorem box_of {n b c : Nat} {rows0 rows : Mat} {s : Int} {A : Nat → Int} {E : Nat → Nat} (n0 : 0 < n) (h4 : n ≤ 4) (hd0 : detN n rows0 ≠ 0) (L : Led n b rows0 rows) (hb : b ≤ c) (hc : c ≤ 2200) (hs0 : 0 ≤ s) (zs : Sz c s)
    (hA : ∀ k, k < n → 0 ≤ A k ∧ 4 * (s * s) * Dd rows k ≤ A k * A k * Dd rows (k + 1)) (hE : ∀ t, t < n → 16 * A (n - 1 - t) + (sumR t fun u => ((E (n - 1 - u) : Nat) : Int)) ≤ 2 * (E (n - 1 - t) : Nat)) (hcb : ∀ t, t < n → cbT n E t < sizeLine) (hEb : ∀ k, k < n → E k ≤ 1000000) :
    BoxOk n c rows (List.replicate n (0 - s)) (List.replicate n s) ∧ cntT n rows (List.replicate n (0 - s)) (List.replicate n s) n ≤ cbT n E n := by
  have sq := L.same.sq
  have hd : detN n rows ≠ 0 := by have := L.same.dt; omega
  have key : ∀ k, k < n → -(E k : Int) ≤ 8 * lo_ n rows (List.replicate n (0 - s)) (List.replicate n s) k ∧ lo_ n rows (List.replicate n (0 - s)) (List.replicate n s) k ≤ 0 ∧ 0 ≤ hi_ n rows (List.replicate n (0 - s)) (List.replicate n s) k ∧ 8 * hi_ n rows (List.replicate n (0 - s)) (List.replicate n s) k ≤ E k := fun k hk => by
    obtain ⟨u1, u2, u3⟩ := up_corner (b := backR n rows k) hs0 n (Nat.le_refl _)
    refine lohi_bound hd u3 u2 ?_
    rw [u1, ← dot_sumR n _ _ (backR_len ..) cornerR_len, back_dot h4 sq hk cornerR_len]
    have f := Fd_bound (E := fun k => ((E k : Nat) : Int)) h4 sq hd L.sh cornerR_len (cornerR_cube (b := backR n rows k) hs0) hA hE n (n - 1 - k) (by omega) (Nat.le_refl _)
    rw [show n - 1 - (n - 1 - k) = k by omega] at f
    have : detN n (rows.set k (cornerR n (backR n rows k) s)) ≤ ((Fd n rows k (cornerR n (backR n rows k) s)).natAbs : Int) := by unfold Fd; omega
    omega
  have cl := cnt_le (E := E) fun k hk => ⟨(key k hk).1, (key k hk).2.2.2⟩
  refine ⟨⟨sq, n0, h4, hd, fun r hr => (L.sz r hr).mono hb, hc, List.length_replicate, List.length_replicate, .of fun x hx => ?_, .of fun x hx => ?_, fun i hi => ?_, fun t ht => Nat.lt_of_le_of_lt (cl t (by omega)) (hcb t ht)⟩, cl n (Nat.le_refl _)⟩
  · rw [List.eq_of_mem_replicate hx]
    unfold Sz at *; omega
  · rw [List.eq_of_mem_replicate hx]; exact zs
  · obtain ⟨k1, k2, k3, k4⟩ := key i hi
    have := hEb i hi
    omega
end L3
set_option pp.maxSteps 600
namespace L3
open PySem PySem.Spec PyProof.Rows L2
/-! ## the greatest number of a row; two ways that a cube is fit -/
def nrm (x : List Int) : Int := maxL (x.map fun a => (a.natAbs : Int))
theorem nrm_ge {x : List Int} {a : Int} (h : a ∈ x) : (a.natAbs : Int) ≤ nrm x := maxL_ge (List.mem_map_of_mem (f := fun a : Int => (a.natAbs : Int)) h)
theorem nrm_mem {x : List Int} (h : x ≠ []) : ∃ a ∈ x, nrm x = (a.natAbs : Int) := by
  have := maxL_mem (l := x.map fun a => (a.natAbs : Int)) (by simpa using h)
  obtain ⟨a, h1, h2⟩ := List.mem_map.mp this
  exact ⟨a, h1, h2.symm⟩
theorem nrm_nonneg {x : List Int} (h : x ≠ []) : 0 ≤ nrm x := by
  obtain ⟨a, _, e⟩ := nrm_mem h
  omega
theorem nrm_sq {x : List Int} (h : x ≠ []) : nrm x * nrm x ≤ dot x x := by
  obtain ⟨a, h1, e⟩ := nrm_mem h
  have := dot_ge x a h1
  have e2 : (a.natAbs : Int) * a.natAbs = a * a := Int.natAbs_mul_self
  rw [e, e2]; exact this
theorem cube_nrm {x : List Int} {s : Int} (h : x ≠ []) : Cube s x ↔ nrm x ≤ s := by
  constructor
  · intro hc
    obtain ⟨a, h1, e⟩ := nrm_mem h
    rw [e]; exact hc a h1
  · exact fun h a ha => Int.le_trans (nrm_ge ha) h
def aS : Nat → Int
  | 0 => 2 | 1 => 3 | 2 => 4 | _ => 6
def eS : Nat → Nat
  | 0 => 106 | 1 => 76 | 2 => 56 | _ => 48
theorem hE_S {n t : Nat} (h4 : n ≤ 4) (ht : t < n) : 16 * aS (n - 1 - t) + (sumR t fun u => ((eS (n - 1 - u) : Nat) : Int)) ≤ 2 * (eS (n - 1 - t) : Nat) := by
  have h : ∀ n, n < 5 → ∀ t, t < n → 16 * aS (n - 1 - t) + (sumR t fun u => ((eS (n - 1 - u) : Nat) : Int)) ≤ 2 * (eS (n - 1 - t) : Nat) := by decide
  exact h n (by omega) t ht
theorem cb_S {n t : Nat} (h4 : n ≤ 4) (ht : t ≤ n) : cbT n eS t < 200000 := by
  have h : ∀ n, n < 5 → ∀ t, t < n + 1 → cbT n eS t < 200000 := by decide
  exact h n (by omega) t (by omega)
theorem eb_S (k : Nat) : eS k ≤ 1000000 := by unfold eS; split <;> omega
theorem fit_short {n b c : Nat} {rows0 rows : Mat} {s : Int} (n0 : 0 < n) (h4 : n ≤ 4) (hd0 : detN n rows0 ≠ 0) (L : Led n b rows0 rows) (hb : b ≤ c) (hc : c ≤ 2200) (hs0 : 0 ≤ s) (zs : Sz c s) (hs : s * s ≤ Dd rows 1) :
    BoxOk n c rows (List.replicate n (0 - s)) (List.replicate n s) ∧ (allW n rows (List.replicate n (0 - s)) (List.replicate n s)).length < sizeLine := by
  have sq := L.same.sq
  have hd : detN n rows ≠ 0 := by have := L.same.dt; omega
  have hp := Dd_pos h4 sq hd
  have l1 := lov1 hp L.sh L.lo
  have hA : ∀ k, k < n → 0 ≤ aS k ∧ 4 * (s * s) * Dd rows k ≤ aS k * aS k * Dd rows (k + 1) := fun k hk => by
    have g := l1 k hk
    have d0 := hp k (by omega)
    have d1 := hp (k + 1) (by omega)
    have g1 : s * s * Dd rows k ≤ Dd rows 1 * Dd rows k := Int.mul_le_mul_of_nonneg_right hs (Int.le_of_lt d0)
    rw [Int.mul_comm (Dd rows 1)] at g1
    have g2 : 4 * (s * s) * Dd rows k = 4 * (s * s * Dd rows k) := Int.mul_assoc ..
    rw [g2]
    generalize s * s * Dd rows k = X at *
    rcases (show k = 0 ∨ k = 1 ∨ k = 2 ∨ k = 3 by omega) with rfl | rfl | rfl | rfl <;> simp only [aS] <;> omega
  obtain ⟨B, hc⟩ := box_of n0 h4 hd0 L hb hc hs0 zs hA (fun t ht => hE_S h4 ht) (fun t ht => Nat.lt_of_lt_of_le (cb_S h4 (Nat.le_of_lt ht)) (by decide)) fun k _ => eb_S k
  exact ⟨B, Nat.lt_of_le_of_lt (allW_le n0 h4 sq hd) (Nat.lt_of_le_of_lt hc (Nat.lt_of_lt_of_le (cb_S h4 (Nat.le_refl _)) (by decide)))⟩
end L3
set_option pp.maxSteps 600
namespace L3
open PySem PySem.Spec PyProof.Rows L2
local macro_rules | `(tactic| wtm_at "sh") => `(tactic| conv => whnf)
/-! ## the least of pairs, the order of rows -/
theorem listLt_int : ∀ (xs ys : List Int), PySem.W.listLt xs ys = decide (xs < ys)
  | [], [] => by simp [PySem.W.listLt]
  | [], y :: ys => by simp [PySem.W.listLt]
  | x :: xs, [] => by simp [PySem.W.listLt]
  | x :: xs, y :: ys => by
    rw [PySem.W.listLt]
    by_cases h : x = y
    · rw [if_pos h, listLt_int xs ys]
      simp [h, List.cons_lt_cons_iff]
    · rw [if_neg h]
      show decide (x < y) = _
      simp [h, List.cons_lt_cons_iff]
abbrev pairOf (x : List Int) : Int × PySem.W.Tup Int := (nrm x, ⟨x⟩)
def sLt (x y : List Int) : Prop := nrm x < nrm y ∨ (nrm x = nrm y ∧ x < y)
theorem pair_lt (x y : List Int) : PySem.W.DatumOrd.lt (pairOf x) (pairOf y) = true ↔ sLt x y := by
  show (if nrm x = nrm y then PySem.W.listLt x y else decide (nrm x < nrm y)) = true ↔ _
  unfold sLt
  by_cases h : nrm x = nrm y
  · rw [if_pos h, listLt_int, decide_eq_true_eq]
    refine ⟨fun k => .inr ⟨h, k⟩, fun k => ?_⟩
    rcases k with k | k
    · omega
    · exact k.2
  · rw [if_neg h, decide_eq_true_eq]
    refine ⟨fun k => .inl k, fun k => ?_⟩
    rcases k with k | k
    · exact k
    · exact absurd k.1 h
theorem sLt_irrefl (x : List Int) : ¬ sLt x x := by
  rintro (h | ⟨_, h⟩)
  · omega
  · exact List.lt_irrefl _ h
theorem sLt_trans {x y z : List Int} (h : sLt x y) (k : sLt y z) : sLt x z := by
  rcases h with h | ⟨h, h2⟩ <;> rcases k with k | ⟨k, k2⟩
  · exact .inl (by omega)
  · exact .inl (by omega)
  · exact .inl (by omega)
  · exact .inr ⟨by omega, List.lt_trans h2 k2⟩
theorem minOf_ok : ∀ (xs : List (List Int)) (x : List Int), ∃ m, m ∈ x :: xs ∧ PySem.W.minOf (pairOf x) (xs.map pairOf) = pairOf m ∧ ∀ y ∈ x :: xs, ¬ sLt y m
  | [], x => ⟨x, by simp, rfl, fun y hy => by rw [List.mem_singleton.mp hy]; exact sLt_irrefl x⟩
  | y :: xs, x => by
    by_cases c : PySem.W.DatumOrd.lt (pairOf y) (pairOf x) = true
    · obtain ⟨m, h1, h2, h3⟩ := minOf_ok xs y
      refine ⟨m, List.mem_cons_of_mem _ h1, ?_, fun z hz => ?_⟩
      · rw [← h2]
        show List.foldl _ (if PySem.W.DatumOrd.lt (pairOf y) (pairOf x) = true then pairOf y else pairOf x) _ = _
        rw [if_pos c]; rfl
      · rcases List.mem_cons.mp hz with rfl | hz
        · exact fun h => h3 y (by simp) (sLt_trans ((pair_lt _ _).mp c) h)
        · exact h3 z hz
    · obtain ⟨m, h1, h2, h3⟩ := minOf_ok xs x
      have c2 : ¬ sLt y x := fun h => c ((pair_lt _ _).mpr h)
      refine ⟨m, ?_, ?_, fun z hz => ?_⟩
      · rcases List.mem_cons.mp h1 with rfl | h1
        · simp
        · exact List.mem_cons_of_mem _ (List.mem_cons_of_mem _ h1)
      · rw [← h2]
        show List.foldl _ (if PySem.W.DatumOrd.lt (pairOf y) (pairOf x) = true then pairOf y else pairOf x) _ = _
        rw [if_neg c]; rfl
      · rcases List.mem_cons.mp hz with rfl | hz
        · exact h3 z (by simp)
        · rcases List.mem_cons.mp hz with rfl | hz
          · intro h
            have hx := h3 x (by simp)
            -- z < m, not x < m : so z < x or as great
            rcases h with h | ⟨h, h'⟩
            · apply c2
              unfold sLt at hx ⊢
              by_cases e : nrm x < nrm m
              · exact absurd (.inl e) hx
              · exact .inl (by omega)
            · apply c2
              unfold sLt at hx ⊢
              by_cases e : nrm x < nrm m
              · exact absurd (.inl e) hx
              · by_cases e2 : nrm x = nrm m
                · have hn : ¬ x < m := fun q => hx (.inr ⟨e2, q⟩)
                  have hle : m ≤ x := List.not_lt.mp hn
                  exact .inr ⟨by omega, Classical.byContradiction fun q => absurd h' (List.not_lt.mpr (List.le_trans hle (List.not_lt.mp q)))⟩
                · exact .inl (by omega)
          · exact h3 z (List.mem_cons_of_mem _ hz)
structure IsShort (n : Nat) (rows : Mat) (x : List Int) : Prop where
  sp : Span n rows x
  ne : 0 < nrm x
  le : ∀ y, Span n rows y → 0 < nrm y → ¬ sLt y x
theorem IsShort.eq {n : Nat} {rows : Mat} {x y : List Int} (hx : IsShort n rows x) (hy : IsShort n rows y) : x = y := by
  have a := hx.le y hy.sp hy.ne
  have b := hy.le x hx.sp hx.ne
  unfold sLt at a b
  have e : nrm x = nrm y := by omega
  exact List.le_antisymm (List.not_lt.mp fun h => a (.inr ⟨e.symm, h⟩)) (List.not_lt.mp fun h => b (.inr ⟨e, h⟩))
def N_size_of : List Str := ["row", "number"]
def body_size_of : TS3 := (xRet (xD (x1 cMaxL (xFz (xLc (xSeqI (xView 0)) (xGName 1) xYes (xD (x1 cAbs (xView 1))) [1])))))
def sp_size_of : Sp3 := fun ts Q _ => ∃ p x, ts = [.d (seqB p x)] ∧ x ≠ [] ∧ x.length ≤ 1000 ∧ Q (.d (.int (nrm x))) ts
theorem v_size_of (ts Q E) (h : sp_size_of ts Q E) : body_size_of { nx := fun r => finOk ts r ∧ Q (.d .none) (finF ts r), rt := fun x r => finOk ts r ∧ Q x (finF ts r) } (start3 N_size_of ts) := by
  obtain ⟨p, x, rfl, hx, hl, q⟩ := h
  have hb2 : 1000 < sizeLine := by decide
  have e : (x.map fun a => PyData.int (a.natAbs : Int)) = (x.map fun a => (a.natAbs : Int)).map PyData.int := by rw [List.map_map]; rfl
  have fin : (x.map fun a => (a.natAbs : Int)) ≠ [] := by simpa using hx
  cases p with
  | true =>
    refine lc_gen (x.map fun a => .int (a.natAbs : Int)) (by simp) (by rw [List.length_map]; omega) (fun r0 h0 i u y hu hy R S ku => ?_) fun r0 h0 p => ?_
    · simp only [wp, puts, List.set_cons_succ, List.set_cons_zero] at h0; subst h0
      obtain ⟨a, ha, rfl⟩ := get_fun hu
      obtain rfl := get_map2 hy ha
      exact ⟨fun _ => ku _ rfl, nofun⟩
    · simp only [wp, puts, List.set_cons_succ, List.set_cons_zero] at h0; subst h0
      refine ⟨nvs_d _, ?_⟩
      rw [fz_outs, e]
      refine ⟨allI_map _, ?_, ?_⟩
      · rw [intL_map]; exact fin
      · rw [intL_map]; exact ⟨⟨⟩, q⟩
  | false =>
    refine lc_gen (x.map fun a => .int (a.natAbs : Int)) (by simp) (by rw [List.length_map]; omega) (fun r0 h0 i u y hu hy R S ku => ?_) fun r0 h0 p => ?_
    · simp only [wp, puts, List.set_cons_succ, List.set_cons_zero] at h0; subst h0
      obtain ⟨a, ha, rfl⟩ := get_fun hu
      obtain rfl := get_map2 hy ha
      exact ⟨fun _ => ku _ rfl, nofun⟩
    · simp only [wp, puts, List.set_cons_succ, List.set_cons_zero] at h0; subst h0
      refine ⟨nvs_d _, ?_⟩
      rw [fz_outs, e]
      refine ⟨allI_map _, ?_, ?_⟩
      · rw [intL_map]; exact fin
      · rw [intL_map]; exact ⟨⟨⟩, q⟩
end L3
set_option pp.maxSteps 600
namespace L3
open PySem PySem.Spec PyProof.Rows L2
local macro_rules | `(tactic| wtm_at "sh") => `(tactic| conv => whnf)
/-! ## the shortest row, all rows to a size -/
theorem Same.iff {n : Nat} {rows0 rows : Mat} {x : List Int} (h0 : Sq n n rows0) (h : Same n rows0 rows) : Span n rows x ↔ Span n rows0 x := ⟨fun k => k.trans h0 h.sq h.sp, fun k => k.trans h.sq h0 h.ps⟩
/-- a list of a number so many times -/
theorem rep_fz {p : Addr} {a : Int} {n : Nat} {m : Int} (h : m = (n : Nat)) : fz (T.own p ((List.replicate m.toNat (fzs [T.d (PyData.int a)])).flatten.map T.d)) = rowD (List.replicate n a) := by
  subst h
  rw [fz_outs, show (fzs [T.d (PyData.int a)]) = [PyData.int a] from rfl, List.flatten_replicate_singleton, Int.toNat_natCast]
  show PyData.list _ = PyData.list _
  rw [List.map_replicate]
theorem led_ne {n : Nat} {rows : Mat} {k : Nat} (hs : Sq n n rows) (n0 : 0 < n) {r : List Int} (h : r ∈ rows) : r ≠ [] := fun e => by
  have := hs.2 r h
  rw [e] at this
  exact absurd this (by simp; omega)
theorem min_rows {n b : Nat} {rows0 rows : Mat} (n0 : 0 < n) (h4 : n ≤ 4) (h0 : Sq n n rows0) (hd0 : detN n rows0 ≠ 0) (L : Led n b rows0 rows) : ∃ r ∈ rows, minL (rows.map nrm) = nrm r ∧ 0 < nrm r ∧ nrm r * nrm r ≤ Dd rows 1 ∧ Sz b (nrm r) := by
  have sq := L.same.sq
  have hl := sq.1
  have hd : detN n rows ≠ 0 := by have := L.same.dt; omega
  have hm := minL_mem (l := rows.map nrm) (by
    intro e
    have := congrArg List.length e
    rw [List.length_map] at this
    exact absurd this (by simp only [List.length_nil]; omega))
  obtain ⟨r, hr, e⟩ := List.mem_map.mp hm
  have rne := led_ne (k := 0) sq n0 hr
  have r0 := getD_mem (rows := rows) (k := 0) (by omega)
  have r0e := led_ne (k := 0) sq n0 r0
  have le := minL_le (l := rows.map nrm) (List.mem_map_of_mem r0)
  have p := nrm_nonneg rne
  refine ⟨r, hr, e.symm, ?_, ?_, ?_⟩
  · rcases Int.lt_or_le 0 (nrm r) with c | c
    · exact c
    · exfalso
      obtain ⟨k, hk⟩ := List.getElem?_of_mem hr
      have hkn := (List.getElem?_eq_some_iff.mp hk).1
      obtain ⟨j, hj, hne⟩ := row_ne sq hd (k := k) (by omega)
      have ek : rows.getD k [] = r := by rw [List.getD_eq_getElem?_getD, hk]; rfl
      rw [ek] at hne
      have hjl : j < r.length := by rw [sq.2 r hr]; exact hj
      have := nrm_ge (x := r) (a := r.getD j 0) (by rw [List.getD_eq_getElem?_getD, List.getElem?_eq_getElem hjl]; exact List.getElem_mem _)
      omega
  · have q1 : nrm r * nrm r ≤ nrm (rows.getD 0 []) * nrm (rows.getD 0 []) := Int.le_trans (Int.mul_le_mul_of_nonneg_left (by omega) p) (Int.mul_le_mul_of_nonneg_right (by omega) (nrm_nonneg r0e))
    have q2 := nrm_sq r0e
    rw [← Mu_zero rows, ← Dd_succ (getD_some (by omega))] at q2
    exact Int.le_trans q1 q2
  · obtain ⟨a, ha, ea⟩ := nrm_mem rne
    rw [ea]
    exact ((L.sz r hr).mem ha).le (by omega)
theorem lay_rowT : ∀ (M : Mat), PyData.canLayAll0 (M.map rowT) = true
  | [] => rfl
  | r :: M => by
    show (PyData.canLay0 (rowT r) && PyData.canLayAll0 (M.map rowT)) = true
    rw [lay_rowT M, Bool.and_true]
    show PyData.canLayAll0 (r.map PyData.int) = true
    induction r with
    | nil => rfl
    | cons a r ih => exact ih
theorem lay_pair : ∀ (M : Mat), PyData.canLayAll0 (M.map fun x => PyData.tuple [.int (nrm x), rowT x]) = true
  | [] => rfl
  | r :: M => by
    show (PyData.canLay0 (.tuple [.int (nrm r), rowT r]) && PyData.canLayAll0 (M.map fun x => PyData.tuple [.int (nrm x), rowT x])) = true
    rw [lay_pair M, Bool.and_true]
    have := lay_rowT [r]
    exact this
theorem ts3 {a a' b b' c c' : PyData} (e1 : a = a') (e2 : b = b') (e3 : c = c') : [T.d a, T.d b, T.d c] = [T.d a', T.d b', T.d c'] := by rw [e1, e2, e3]
def N_shortest_1 : List Str := ["rows", "size", "found", "row"]
def body_shortest_1 : TS3 := (xSeq (xDrop (xCall sp_need_lattice xNoE (xArg (xView 0) xANil)))
  (xSeq (xAsg (xCall sp_led_down xNoE (xArg (xView 0) xANil)) (xGName 0))
  (xFzS 0 (xSeq (xAsg (xD (x1 cMinL (xFz (xLc (xSeqI (xView 0)) (xGName 3) xYes (xCall sp_size_of xNoE (xArg (xView 3) xANil)) [3])))) (xGName 1))
  (xSeq (xAsg (xCall sp_all_within xNoE (xArg (xView 0) (xArg (xFz (x2 cMul (xFz (xLst (xCons (xD (x2 kSub (xC (.int 0)) (xView 1))) xNil))) (x1 cLen (xView 0)))) (xArg (xFz (x2 cMul (xFz (xLst (xCons (xMove 1) xNil))) (x1 cLen (xView 0)))) xANil)))) (xGName 2))
  (xFzS 2 (xRet (xD (x2 cIx (x1 (cMinA (Int × PySem.W.Tup Int)) (xFz (xLc (xSeqI (xView 2)) (xGName 3) (xTest (x2 kGt (xFz (xCall sp_size_of xNoE (xArg (xView 3) xANil))) (xC (.int 0)))) (xTup (xCons (xCall sp_size_of xNoE (xArg (xView 3) xANil)) (xCons (xMove 3) xNil))) [3]))) (xC (.int 1)))))))))))
def sp_shortest_1 : Sp3 := fun ts Q _ => ∃ rows b, ts = [.d (matP rows)] ∧ rows.length ≤ 4 ∧ latB rows = true ∧ (∀ r ∈ rows, SzL b r) ∧ b ≤ 300 ∧ ∀ x, IsShort rows.length rows x → Q (.d (rowT x)) ts
theorem v_shortest_1 (ts Q E) (h : sp_shortest_1 ts Q E) : body_shortest_1 { nx := fun r => finOk ts r ∧ Q (.d .none) (finF ts r), rt := fun x r => finOk ts r ∧ Q x (finF ts r) } (start3 N_shortest_1 ts) := by
  obtain ⟨rows0, b, rfl, h4, hlat, hz, hb, q⟩ := h
  obtain ⟨n0, hs0, hd0⟩ := lat_sq hlat
  have hb2 : 1000 < sizeLine := by decide
  have zD : Sz 8990 (Dd rows0 rows0.length) := by
    obtain ⟨k, hk⟩ : ∃ k, rows0.length = k + 1 := ⟨rows0.length - 1, by omega⟩
    have hr := getD_some (rows := rows0) (k := k) (by omega)
    rw [hk, Dd_succ hr]
    exact (Mu_Sz h4 hs0 (by omega) (by omega) hz (hs0.getD (by omega)) (hz _ (getD_mem (by omega))) (hz _ (getD_mem (by omega)))).mono (by omega)
  refine ⟨nd0, rows0, b, rfl, h4, hlat, hz, by omega, nd0, true, rows0, rows0.length, b, rfl, hs0, n0, h4, hd0, hz, by omega, zD, fun p1 rows L => ?_⟩
  have sq := L.same.sq
  have hl := sq.1
  obtain ⟨r, hr, er, rp, rsq, rz⟩ := min_rows n0 h4 hs0 hd0 L
  refine ⟨nvs_mapT _ _ fun _ _ => rfl, ?_⟩
  rw [show fz (matO p1 rows) = matL rows from fz_own p1 rowD rows]
  have lm : (rows.map rowD).length = rows.length := List.length_map ..
  refine lc_gen (rows.map fun x => .int (nrm x)) (by simp) (by rw [List.length_map]; omega) (fun r0 h0 i u y hu hy R S ku => ?_) fun r0 h0 p2 => ?_
  · simp only [wp, puts, List.set_cons_succ, List.set_cons_zero] at h0; subst h0
    obtain ⟨a, ha, rfl⟩ := get_fun hu
    obtain rfl := get_map2 hy ha
    have ma := List.mem_of_getElem? ha
    exact ⟨fun _ => ⟨nd0, false, a, rfl, led_ne (k := 0) sq n0 ma, by rw [sq.2 a ma]; omega, ku _ rfl⟩, nofun⟩
  · simp only [wp, puts, List.set_cons_succ, List.set_cons_zero] at h0; subst h0
    refine ⟨nvs_d _, ?_⟩
    rw [fz_outs, show (rows.map fun x => PyData.int (nrm x)) = (rows.map nrm).map PyData.int by rw [List.map_map]; rfl]
    refine ⟨allI_map _, ?_, ?_⟩
    · rw [intL_map]
      intro e
      have := congrArg List.length e
      rw [List.length_map] at this
      exact absurd this (by simp only [List.length_nil]; omega)
    rw [intL_map, er]
    have sn := nrm_nonneg (led_ne (k := 0) sq n0 hr)
    obtain ⟨B, hlen⟩ := fit_short (c := b + 2) n0 h4 hd0 L (Nat.le_refl _) (by omega) sn rz rsq
    have mw : ∀ x, x ∈ allW rows0.length rows (List.replicate rows0.length (0 - nrm r)) (List.replicate rows0.length (nrm r)) ↔ Span rows0.length rows x ∧ Cube (nrm r) x := fun x => by
      rw [allW_mem n0 h4 sq B.hd]
      exact ⟨fun h => ⟨h.1, (inb_cube (h.1.len sq)).mp h.2⟩, fun h => ⟨h.1, (inb_cube (h.1.len sq)).mpr h.2⟩⟩
    have sne : ∀ x, Span rows0.length rows x → x ≠ [] ∧ x.length ≤ 1000 := fun x h => by
      have := h.len sq
      exact ⟨fun e => by rw [e] at this; exact absurd this (by simp only [List.length_nil]; omega), by omega⟩
    have em : ((rows.map rowD).length : Int) = (rows0.length : Nat) := by omega
    refine ⟨sz 1, fun p3 => ⟨rfl, by omega, ?_, ?_, fun p4 => ⟨nvs_d _, sz 1, fun p5 => ⟨rfl, by omega, ?_, ?_, fun p6 => ⟨nvs_d _, nd0, rows, rows0.length, _, _, b + 2, ?_, B, hlen, fun p7 => ⟨nvs_mapT _ _ fun _ _ => rfl, ?_⟩⟩⟩⟩⟩⟩
    · show 1 * (((rows.map rowD).length : Int)).toNat ≤ sizeLine
      omega
    · show ((rows.map rowD).length : Int) < 2 ^ 63
      omega
    · show 1 * (((rows.map rowD).length : Int)).toNat ≤ sizeLine
      omega
    · show ((rows.map rowD).length : Int) < 2 ^ 63
      omega
    · exact ts3 rfl (rep_fz em) (rep_fz em)
    rw [show fz (T.own p7 ((allW rows0.length rows (List.replicate rows0.length (0 - nrm r)) (List.replicate rows0.length (nrm r))).map fun x => T.d (rowT x))) = .list ((allW rows0.length rows (List.replicate rows0.length (0 - nrm r)) (List.replicate rows0.length (nrm r))).map rowT) from fz_own p7 rowT _]
    generalize allW rows0.length rows (List.replicate rows0.length (0 - nrm r)) (List.replicate rows0.length (nrm r)) = W at *
    refine lf_gen (fun x => .tuple [.int (nrm x), rowT x]) (fun x => decide (nrm x > 0)) W (Nat.le_of_lt hlen) (fun r0 h0 u hu R S ku kn => ?_) fun r0 h0 p8 => ?_
    · simp only [wp, puts, List.set_cons_succ, List.set_cons_zero] at h0; subst h0
      obtain ⟨u1, u2⟩ := sne u ((mw u).mp hu).1
      refine ⟨nd0, true, u, rfl, u1, u2, fun hc => ?_, fun hc => kn hc _ rfl⟩
      exact ⟨nd0, true, u, rfl, u1, u2, sz 2, ku hc _ rfl⟩
    · simp only [wp, puts, List.set_cons_succ, List.set_cons_zero] at h0; subst h0
      refine ⟨nvs_mapT _ _ fun _ _ => rfl, ?_⟩
      rw [show fz (T.own p8 ((W.filter fun x => decide (nrm x > 0)).map fun x => T.d (.tuple [.int (nrm x), rowT x]))) = .list ((W.filter fun x => decide (nrm x > 0)).map fun x => .tuple [.int (nrm x), rowT x]) from fz_own p8 (fun x => .tuple [.int (nrm x), rowT x]) _]
      have rin : r ∈ W.filter fun x => decide (nrm x > 0) := List.mem_filter.mpr ⟨(mw r).mpr ⟨.of_mem sq hr, (cube_nrm (led_ne (k := 0) sq n0 hr)).mpr (Int.le_refl _)⟩, decide_eq_true rp⟩
      have fin : ∀ x, x ∈ (W.filter fun x => decide (nrm x > 0)) → Span rows0.length rows x ∧ 0 < nrm x := fun x hx => by
        obtain ⟨g1, g2⟩ := List.mem_filter.mp hx
        exact ⟨((mw x).mp g1).1, of_decide_eq_true g2⟩
      have fin2 : ∀ x, Span rows0.length rows x → 0 < nrm x → nrm x ≤ nrm r → x ∈ W.filter fun x => decide (nrm x > 0) := fun x g1 g2 g3 => List.mem_filter.mpr ⟨(mw x).mpr ⟨g1, (cube_nrm (sne x g1).1).mpr g3⟩, decide_eq_true g2⟩
      generalize (W.filter fun x => decide (nrm x > 0)) = F at *
      cases F with
      | nil => cases rin
      | cons x0 xs =>
        obtain ⟨m, m1, m2, m3⟩ := minOf_ok xs x0
        refine ⟨pairOf x0, xs.map pairOf, ?_, lay_pair _, ?_⟩
        · show _ = _ :: _
          rw [List.map_map]; rfl
        · rw [m2]
          refine ⟨_, rfl, ⟨⟩, q m ⟨?_, (fin m m1).2, fun y y1 y2 => ?_⟩⟩
          · exact (L.same.iff hs0).mp (fin m m1).1
          · have y1 := (L.same.iff hs0).mpr y1
            by_cases c : nrm y ≤ nrm r
            · exact m3 y (fin2 y y1 y2 c)
            · have := m3 r rin
              intro h
              apply this
              unfold sLt at h ⊢
              exact .inl (by omega)
/-! ### rows in order -/
def SortedL (L : Mat) : Prop := L.Pairwise (· < ·)
theorem sorted_eq : ∀ {L M : Mat}, SortedL L → SortedL M → (∀ x, x ∈ L ↔ x ∈ M) → L = M
  | [], [], _, _, _ => rfl
  | [], y :: M, _, _, h => by have := (h y).mpr (by simp); cases this
  | x :: L, [], _, _, h => by have := (h x).mp (by simp); cases this
  | x :: L, y :: M, hL, hM, h => by
    obtain ⟨l1, l2⟩ := List.pairwise_cons.mp hL
    obtain ⟨m1, m2⟩ := List.pairwise_cons.mp hM
    have e : x = y := by
      rcases List.mem_cons.mp ((h x).mp (by simp)) with e | hx
      · exact e
      · rcases List.mem_cons.mp ((h y).mpr (by simp)) with e | hy
        · exact e.symm
        · exact absurd (List.lt_trans (m1 x hx) (l1 y hy)) (List.lt_irrefl _)
    subst e
    congr 1
    refine sorted_eq l2 m2 fun z => ⟨fun hz => ?_, fun hz => ?_⟩
    · rcases List.mem_cons.mp ((h z).mp (List.mem_cons_of_mem _ hz)) with rfl | k
      · exact absurd (l1 z hz) (List.lt_irrefl _)
      · exact k
    · rcases List.mem_cons.mp ((h z).mpr (List.mem_cons_of_mem _ hz)) with rfl | k
      · exact absurd (m1 z hz) (List.lt_irrefl _)
      · exact k
end L3
set_option pp.maxSteps 600
namespace L3
open PySem PySem.Spec PyProof.Rows L2
local macro_rules | `(tactic| wtm_at "sh") => `(tactic| conv => whnf)
/-! ## less, of two of one type -/
/-! ## the pile that short rows' laws draw from -/
end L3
set_option pp.maxSteps 600
namespace L3
open PySem PySem.Spec PyProof.Rows L2
local macro_rules | `(tactic| wtm_at "sh") => `(tactic| conv => whnf)
/-! ## hidden rows -/
abbrev negR (x : List Int) : List Int := x.map fun a => 0 - a
theorem negR_eq (x : List Int) : negR x = x.map ((-1) * ·) := List.map_congr_left fun a _ => by omega
theorem Span.scale {m n : Nat} {rows : Mat} {x : List Int} (h : Sq m n rows) (k : Int) (s : Span n rows x) : Span n rows (x.map (k * ·)) := by
  rw [scale_vAdd]; exact s.vadd h _ s
theorem Same.neg {n i : Nat} {rows : Mat} {U : List Int} (h : Sq n n rows) (hU : rows[i]? = some U) : Same n rows (rows.set i (negR U)) := by
  have hl := h.1
  have lU := h.2 U (List.mem_of_getElem? hU)
  have hi : i < n := by have := (List.getElem?_eq_some_iff.mp hU).1; omega
  have sq : Sq n n (rows.set i (negR U)) := h.set (by rw [List.length_map]; exact lU)
  have g : (rows.set i (negR U))[i]? = some (negR U) := List.getElem?_set_self (by omega)
  refine ⟨sq, ?_, fun r hr => ?_, fun r hr => ?_⟩
  · rw [negR_eq, det_scale _ h hi lU, set_same hU, Int.natAbs_mul]; simp
  · rcases List.mem_or_eq_of_mem_set hr with hr | rfl
    · exact .of_mem h hr
    · rw [negR_eq]; exact (Span.of_mem h (List.mem_of_getElem? hU)).scale h _
  · obtain ⟨j, hj⟩ := List.getElem?_of_mem hr
    by_cases c : j = i
    · subst c
      rw [hU] at hj
      cases hj
      have e : U = (negR U).map ((-1) * ·) := by
        rw [List.map_map]
        exact (List.map_id U).symm.trans (List.map_congr_left fun a _ => by show a = -1 * (0 - a); omega)
      have sp := (Span.of_mem sq (List.mem_of_getElem? g)).scale sq (-1)
      rw [← e] at sp
      exact sp
    · exact .of_mem sq (List.mem_of_getElem? (i := j) (by rw [List.getElem?_set_ne (by omega)]; exact hj))
structure Hid (n b : Nat) (M rows : Mat) : Prop where
  same : Same n M rows
  sz : ∀ r ∈ rows, SzL b r
theorem Hid.refl {n b : Nat} {M : Mat} (h : Sq n n M) (hz : ∀ r ∈ M, SzL b r) : Hid n b M M := ⟨.refl h, hz⟩
theorem Hid.set {n b i : Nat} {M rows : Mat} {x : List Int} (h0 : Sq n n M) (h : Hid n b M rows) (k : Same n rows (rows.set i x)) (hz : SzL b x) : Hid n b M (rows.set i x) := ⟨h.same.trans h0 k, fun r hr => by
  rcases List.mem_or_eq_of_mem_set hr with hr | rfl
  · exact h.sz r hr
  · exact hz⟩
end L3
set_option pp.maxSteps 600
namespace L3
open PySem PySem.Spec PyProof.Rows L2
/-! ## grids of rows, and what must be in one -/
def prodN (w : Nat → Nat) : Nat → Nat
  | 0 => 1
  | k + 1 => prodN w k * w k
theorem app_getD {r : List Int} {a : Int} {c : Nat} : (r ++ [a]).getD c 0 = if c < r.length then r.getD c 0 else if c = r.length then a else 0 := by
  rw [List.getD_eq_getElem?_getD, List.getElem?_append]
  by_cases h : c < r.length
  · rw [if_pos h, if_pos h, List.getD_eq_getElem?_getD]
  · rw [if_neg h, if_neg h]
    by_cases e : c = r.length
    · rw [if_pos e, e, Nat.sub_self]; rfl
    · rw [if_neg e, List.getElem?_eq_none (by simp; omega)]; rfl
/-! ### planted rows -/
structure Planted (n : Nat) (M : Mat) : Prop where
  sq : Sq n n M
  tri : Tri 0 M
  pos : ∀ i, i < n → 1 ≤ (M.getD i []).getD i 0
def dgN (M : Mat) (i : Nat) : Nat := ((M.getD i []).getD i 0).toNat
theorem dg_eq {n i : Nat} {M : Mat} (h : Planted n M) (hi : i < n) : ((dgN M i : Nat) : Int) = (M.getD i []).getD i 0 := by
  have := h.pos i hi
  unfold dgN; omega
theorem dg_prod {n : Nat} {M : Mat} (h : Planted n M) : ((prodN (dgN M) n : Nat) : Int) = detN n M := by
  have hl := h.sq.1
  rw [det_tri n M h.sq h.tri]
  have go : ∀ k, k ≤ n → ((prodN (dgN M) k : Nat) : Int) = prodD 0 (M.take k) := by
    intro k
    induction k with
    | zero => intro _; rfl
    | succ k ih =>
      intro hk
      have e : M.take (k + 1) = M.take k ++ [M.getD k []] := by rw [List.take_add_one, getD_some (by omega)]; rfl
      rw [e, prodD_snoc, ← ih (by omega), List.length_take, Nat.min_eq_left (by omega), Nat.zero_add, ← dg_eq h (by omega)]
      show ((prodN (dgN M) k * dgN M k : Nat) : Int) = _
      rw [Int.natCast_mul]
  rw [go n (Nat.le_refl _), ← hl, List.take_length]
end L3
set_option pp.maxSteps 600
namespace L3
open PySem PySem.Spec PyProof.Rows L2
local macro_rules | `(tactic| wtm_at "sh") => `(tactic| conv => whnf)
/-! ## planted rows: lists of one's own -/
def matF (n : Nat) (g : Nat → Nat → Int) : Mat := (List.range n).map fun i => (List.range n).map fun j => g i j
theorem matF_row {n i : Nat} {g : Nat → Nat → Int} (h : i < n) : (matF n g).getD i [] = (List.range n).map fun j => g i j := by
  unfold matF
  rw [List.getD_eq_getElem?_getD, List.getElem?_map, List.getElem?_range h]; rfl
theorem matF_at {n i j : Nat} {g : Nat → Nat → Int} (h : i < n) (hj : j < n) : ((matF n g).getD i []).getD j 0 = g i j := by
  rw [matF_row h, List.getD_eq_getElem?_getD, List.getElem?_map, List.getElem?_range hj]; rfl
theorem matF_sq (n : Nat) (g : Nat → Nat → Int) : Sq n n (matF n g) := ⟨by unfold matF; rw [List.length_map, List.length_range], fun r hr => by
  unfold matF at hr
  obtain ⟨i, _, rfl⟩ := List.mem_map.mp hr
  rw [List.length_map, List.length_range]⟩
structure PG (n : Nat) (g : Nat → Nat → Int) : Prop where
  pos : ∀ i, i < n → 1 ≤ g i i
  zero : ∀ i j, i < n → j < i → g i j = 0
  bd : ∀ i j, i < n → j < n → 0 ≤ g i j ∧ g i j ≤ 1000
  pr : prodN (fun i => (g i i).toNat) n ≤ 1000
theorem PG.planted {n : Nat} {g : Nat → Nat → Int} (h : PG n g) : Planted n (matF n g) := ⟨matF_sq n g, fun i r hr c hc => by
  have hi : i < n := by have := (List.getElem?_eq_some_iff.mp hr).1; rw [(matF_sq n g).1] at this; exact this
  have e : (matF n g).getD i [] = r := by rw [List.getD_eq_getElem?_getD, hr]; rfl
  rw [← e, matF_at hi (by omega)]
  exact h.zero i c hi (by omega), fun i hi => by rw [matF_at hi hi]; exact h.pos i hi⟩
theorem prodN_congr {w w' : Nat → Nat} : ∀ k, (∀ i, i < k → w i = w' i) → prodN w k = prodN w' k
  | 0, _ => rfl
  | k + 1, h => by show prodN w k * w k = prodN w' k * w' k; rw [prodN_congr k fun i hi => h i (by omega), h k (by omega)]
theorem PG.det {n : Nat} {g : Nat → Nat → Int} (h : PG n g) : 1 ≤ detN n (matF n g) ∧ detN n (matF n g) ≤ 1000 := by
  have e := dg_prod h.planted
  have e2 : prodN (dgN (matF n g)) n = prodN (fun i => (g i i).toNat) n := prodN_congr n fun i hi => by unfold dgN; rw [matF_at hi hi]
  have hp := h.pr
  have h1 : ∀ k, k ≤ n → 1 ≤ prodN (fun i => (g i i).toNat) k := by
    intro k
    induction k with
    | zero => intro _; exact Nat.le_refl _
    | succ k ih =>
      intro hk
      have := h.pos k (by omega)
      exact Nat.mul_le_mul (ih (by omega)) (show 1 ≤ (g k k).toNat by omega)
  have := h1 n (Nat.le_refl _)
  omega
theorem PG.sz {n : Nat} {g : Nat → Nat → Int} (h : PG n g) : ∀ r ∈ matF n g, SzL 10 r := fun r hr => .of fun x hx => by
  unfold matF at hr
  obtain ⟨i, hi, rfl⟩ := List.mem_map.mp hr
  obtain ⟨j, hj, rfl⟩ := List.mem_map.mp hx
  have := h.bd i j (List.mem_range.mp hi) (List.mem_range.mp hj)
  unfold Sz; omega
end L3
set_option pp.maxSteps 600
namespace L3
open PySem PySem.Spec PyProof.Rows L2
local macro_rules | `(tactic| wtm_at "sh") => `(tactic| conv => whnf)
theorem Planted.det {n : Nat} {M : Mat} (h : Planted n M) : 0 < detN n M := by
  rw [← dg_prod h]
  have h1 : ∀ k, k ≤ n → 1 ≤ prodN (dgN M) k := by
    intro k
    induction k with
    | zero => intro _; exact Nat.le_refl _
    | succ k ih =>
      intro hk
      have := h.pos k (by omega)
      exact Nat.mul_le_mul (ih (by omega)) (show 1 ≤ dgN M k by unfold dgN; omega)
  have := h1 n (Nat.le_refl _)
  omega
end L3
set_option pp.maxSteps 600
namespace L3
open PySem PySem.Spec PyProof.Rows L2
local macro_rules | `(tactic| wtm_at "sh") => `(tactic| conv => whnf)
def BestI (n : Nat) (M : Mat) (L : Mat) : Option (List Int) → Prop
  | none => ∀ x ∈ L, ¬ (Span n M x ∧ 0 < nrm x)
  | some b => Span n M b ∧ 0 < nrm b ∧ ∀ x ∈ L, Span n M x → 0 < nrm x → ¬ sLt x b
theorem BestI.skip {n : Nat} {M L : Mat} {x : List Int} {o : Option (List Int)} (h : BestI n M L o) (hx : ¬ (Span n M x ∧ 0 < nrm x) ∨ ∃ b, o = some b ∧ ¬ sLt x b) : BestI n M (L ++ [x]) o := by
  cases o with
  | none =>
    intro y hy
    rcases List.mem_append.mp hy with hy | hy
    · exact h y hy
    · rw [List.mem_singleton.mp hy]
      rcases hx with hx | ⟨b, e, _⟩
      · exact hx
      · cases e
  | some b =>
    refine ⟨h.1, h.2.1, fun y hy h1 h2 => ?_⟩
    rcases List.mem_append.mp hy with hy | hy
    · exact h.2.2 y hy h1 h2
    · rw [List.mem_singleton.mp hy] at h1 h2 ⊢
      rcases hx with hx | ⟨b', e, hx⟩
      · exact absurd ⟨h1, h2⟩ hx
      · cases e; exact hx
theorem BestI.take {n : Nat} {M L : Mat} {x : List Int} {o : Option (List Int)} (h : BestI n M L o) (h1 : Span n M x) (h2 : 0 < nrm x) (hx : ∀ b, o = some b → sLt x b) : BestI n M (L ++ [x]) (some x) := by
  refine ⟨h1, h2, fun y hy k1 k2 => ?_⟩
  rcases List.mem_append.mp hy with hy | hy
  · cases o with
    | none => exact absurd ⟨k1, k2⟩ (h y hy)
    | some b => exact fun k => h.2.2 y hy k1 k2 (sLt_trans k (hx b rfl))
  · rw [List.mem_singleton.mp hy]; exact sLt_irrefl x
end L3
set_option pp.maxSteps 600
namespace L3
open PySem PySem.Spec PyProof.Rows L2
/-! ## a loop over a list of one's own, which stays -/
def xForO (i : Nat) (g : TG3) (tb : TS3) : TS3 := fun D r => match r[i]? with
  | some (some (.own a l)) => alld l = true ∧ ∃ W : Nat → Rho → Prop, W 0 r ∧ (∀ k r', W k r' → r'[i]? = some (some (.own a l))) ∧ (∀ k x r', (fzs l)[k]? = some x → W k r' → g (.d x) r' fun r2 => tb { D with nx := W (k + 1), ct := W (k + 1), bk := D.nx } r2) ∧ ∀ r', W (fzs l).length r' → D.nx r'
  | _ => False
theorem rts_dqa {K : PySem.W.Frag} {Z H : Hp} : ∀ {l : List T} {xs : List V}, alld l = true → RTs K Z H l xs → DqAll K Z xs (fzs l)
  | [], _, _, q => by cases q; exact .nil
  | t :: l, xs, hd, q => by
    cases q with
    | cons q1 q2 =>
      cases t with
      | d y => cases q1 with | d d1 => exact .cons d1 (rts_dqa hd q2)
      | v _ => cases hd
      | sc _ _ => cases hd
      | own _ _ => cases hd
      | tp _ => cases hd
section
variable {X : Cx} {tg : Expr} {body : List Stmt} {js : List Nat} {g : TG3} {tb : TS3} {p pos : Pos}
theorem m3_forO (i : Nat) {x : Str} (hp : PassesOwn (model X.prog X.w) X.A X.env X.xe) (hc : X.calm = true) (hg : G3 X tg js g) (hb : B3 X body tb) (hN : X.N[i]? = some x := by rfl) (hv : Vis X.env.scope x := by first | exact Or.inl rfl | exact Or.inr (Or.inl rfl) | exact Or.inr (Or.inr rfl)) (hd : (x == ("__debug__" : Str)) = false := by decide)
    (hcd : (x == ("__classdict__" : Str)) = false := by decide) (hs : ∀ y, foldedSetIterable (.Name x p) X.env y = pure y := by intro _; rfl) : M3 X (.For tg (.Name x p) body [] pos) (xForO i g tb) := by
  refine ⟨fun Wx tk => ?_⟩
  obtain ⟨tg', eg, sg⟩ := hg.ex
  obtain ⟨teb, eb, sb⟩ := hb.ex Wx tk
  refine ⟨_, ps_for hp hc (pi_seq (pe_var hN hv hd hcd)) eg eb hs, fun G Z H r s D D3 st ht im => ?_⟩
  unfold xForO at ht
  split at ht
  · rename_i a l hr
    obtain ⟨hal, W, w0, keep, turn, done⟩ := ht
    obtain ⟨w, ew, rt⟩ := st.slot i _ hr
    cases rt with
    | @own _ _ xs0 e1 e2 =>
      refine ⟨.ref a, ew, a, rfl, .inl ⟨⟨_, SqL.of e1⟩, ?_⟩⟩
      refine ⟨fun k m s H => m = (fzs l).length - k ∧ k ≤ (fzs l).length ∧ ∃ Z' r, Gr G Z Z' ∧ S3 X.K G Z' H [] [] r s ∧ W k r, ⟨_, rfl, Nat.zero_le _, Z, r, Gr.refl _ _, st, w0⟩, ?_⟩
      rintro k m s1 H1 ⟨rfl, hk, Z1, r1, g1, st1, w1⟩
      obtain ⟨w2, ew2, rt2⟩ := st1.slot i _ (keep k r1 w1)
      cases rt2 with
      | @own _ _ xs k1 k2 =>
        have dq := rts_dqa hal k2
        have hs1 := SqL.of (K := X.K) k1
        by_cases hlt : k < (fzs l).length
        · obtain ⟨v, ev, dv⟩ := dpa_get dq (List.getElem?_eq_getElem hlt)
          refine .inr ⟨⟨xs, v, hs1, ev⟩, fun s' H' => ∃ Z' r, Gr G Z Z' ∧ S3 X.K G Z' H' [] [] r s' ∧ W (k + 1) r, fun s' H' h => ⟨(fzs l).length - (k + 1), by omega, rfl, hlt, h⟩, fun x H' yx => ?_⟩
          obtain ⟨rfl, y2⟩ := yx
          have := y2 xs hs1
          rw [ev] at this
          cases this
          refine sg G Z1 H' [] [] r1 s1 _ v _ _ (st1.pushD dv) (turn k _ r1 (List.getElem?_eq_getElem hlt) w1) fun Z3 H3 r3 s3 g3 st3 _ _ q3 => ?_
          have gg := g1.trans g3
          exact sb G Z3 H3 r3 s3 _ _ st3 q3 ⟨fun Z4 H4 r4 s4 g4 st4 q4 => ⟨Z4, r4, gg.trans g4, st4, q4⟩, fun Z4 H4 r4 s4 x v g4 st4 q4 => im.rt Z4 H4 r4 s4 x v (gg.trans g4) st4 q4,
            fun Z4 H4 r4 s4 g4 st4 q4 => im.nx Z4 H4 r4 s4 (gg.trans g4) st4 q4, fun Z4 H4 r4 s4 g4 st4 q4 => ⟨Z4, r4, gg.trans g4, st4, q4⟩, fun Z4 H4 C r4 s4 g4 st4 q4 => im.ex Z4 H4 C r4 s4 (gg.trans g4) st4 q4⟩
        · have e : k = (fzs l).length := by omega
          subst e
          exact .inl ⟨⟨xs, hs1, by rw [← dpa_len dq]; exact Nat.le_refl _⟩, im.nx Z1 H1 r1 s1 g1 st1 (done r1 w1)⟩
  · exact ht.elim
end
end L3
set_option pp.maxSteps 600
namespace L3
open PySem PySem.Spec PyProof.Rows L2
local macro_rules | `(tactic| wtm_at "sh") => `(tactic| conv => whnf)
/-- all rows of a lattice to a size, in order -/
def AllTo (n : Nat) (M : Mat) (s : Int) (D : Mat) : Prop := SortedL D ∧ ∀ x, x ∈ D ↔ Span n M x ∧ Cube s x
theorem AllTo.eq {n : Nat} {M D D' : Mat} {s : Int} (h : AllTo n M s D) (h' : AllTo n M s D') : D = D' := sorted_eq h.1 h'.1 fun x => (h.2 x).trans (h'.2 x).symm
theorem fzsT {α : Type} (f : α → PyData) (l : List α) : fzs (l.map fun x => T.d (f x)) = l.map f := fzs_mapT _ _
end L3
set_option pp.maxSteps 600
namespace L3
open PySem PySem.Spec PyProof.Rows L2
/-! ## the first of a list that is like a datum, gone -/
end L3
set_option pp.maxSteps 600
namespace L3
open PySem PySem.Spec PyProof.Rows L2
/-! ## the lesser one of two of one type -/
end L3
set_option pp.maxSteps 600
namespace L3
open PySem PySem.Spec PyProof.Rows L2
/-! ## a planted short row of two numbers: the plain law -/
end L3
set_option pp.maxSteps 600
namespace L3
open PySem PySem.Spec PyProof.Rows L2
/-! ## numbers that with a planted row span just one: the plain law -/
def Cop (a b : Int) : Prop := ∀ d : Int, d ∣ a → d ∣ b → d ∣ 1
/-- steps of the common measure: what divides stays -/
def SameD (a b l r : Int) : Prop := ∀ d : Int, (d ∣ l ∧ d ∣ r) ↔ (d ∣ a ∧ d ∣ b)
theorem SameD.step {a b l r : Int} (h : SameD a b l r) : SameD a b r (l % r) := fun d => by
  rw [← h d]
  have e := Int.emod_add_mul_ediv l r
  constructor
  · rintro ⟨h1, h2⟩
    refine ⟨?_, h1⟩
    rw [← e]
    exact Int.dvd_add h2 (Int.dvd_mul_of_dvd_left h1)
  · rintro ⟨h1, h2⟩
    refine ⟨h2, ?_⟩
    rw [show l % r = l - r * (l / r) by omega]
    exact Int.dvd_sub h1 (Int.dvd_mul_of_dvd_left h2)
theorem SameD.cop {a b g : Int} (h : SameD a b g 0) (hb : 0 < b) (hg : 0 ≤ g) : 0 < g ∧ g ∣ a ∧ g ∣ b ∧ Cop (a / g) (b / g) := by
  obtain ⟨ha, hb2⟩ := (h g).mp ⟨Int.dvd_refl _, Int.dvd_zero _⟩
  have g0 : g ≠ 0 := fun e => by subst e; obtain ⟨k, hk⟩ := hb2; omega
  refine ⟨by omega, ha, hb2, fun d h1 h2 => ?_⟩
  obtain ⟨k1, e1⟩ := h1
  obtain ⟨k2, e2⟩ := h2
  have q1 : a = g * d * k1 := by have := Int.mul_ediv_cancel' ha; rw [e1] at this; rw [← this]; grind
  have q2 : b = g * d * k2 := by have := Int.mul_ediv_cancel' hb2; rw [e2] at this; rw [← this]; grind
  obtain ⟨k3, e3⟩ := ((h (g * d)).mpr ⟨⟨k1, q1⟩, ⟨k2, q2⟩⟩).1
  have q3 : g * 1 = g * (d * k3) := by rw [Int.mul_one, ← Int.mul_assoc]; exact e3
  exact ⟨k3, Int.eq_of_mul_eq_mul_left g0 q3⟩
structure PtI (u v a0 a1 a2 b0 b1 b2 : Int) : Prop where
  ea : a0 = u * a1 + v * a2
  eb : b0 = u * b1 + v * b2
  b : 0 ≤ b0
  cop : Cop a0 b0
  sum : b0 * (a1.natAbs : Int) + a0 * (b1.natAbs : Int) = v
  opp : a1 * b1 ≤ 0
  la : (a1.natAbs : Int) ≤ v
  lb : (b1.natAbs : Int) ≤ v
  pa : 0 < a0 ∨ b1 = 0
theorem PtI.step {u v a0 a1 a2 b0 b1 b2 : Int} (h : PtI u v a0 a1 a2 b0 b1 b2) (hb : b0 ≠ 0) : PtI u v b0 b1 b2 (a0 - a0 / b0 * b0) (a1 - a0 / b0 * b1) (a2 - a0 / b0 * b2) := by
  have hb0 : 0 < b0 := by have := h.b; omega
  have e := Int.emod_add_mul_ediv a0 b0
  have m0 := Int.emod_nonneg a0 hb
  have ec : a0 - a0 / b0 * b0 = a0 % b0 := by rw [Int.mul_comm]; omega
  obtain ⟨hsum, hlc⟩ : (a0 - a0 / b0 * b0) * (b1.natAbs : Int) + b0 * ((a1 - a0 / b0 * b1).natAbs : Int) = v ∧ b1 * (a1 - a0 / b0 * b1) ≤ 0 := by
    have hs := h.sum
    have ho := h.opp
    rcases h.pa with ha | hz
    · have ht : 0 ≤ a0 / b0 := Int.ediv_nonneg (by omega) (by omega)
      have sq := sq_nonneg b1
      have c : b1 * (a1 - a0 / b0 * b1) = a1 * b1 - a0 / b0 * (b1 * b1) := by grind
      have tq := Int.mul_nonneg ht sq
      refine ⟨?_, by omega⟩
      have ab : ((a1 - a0 / b0 * b1).natAbs : Int) = (a1.natAbs : Int) + a0 / b0 * (b1.natAbs : Int) := by
        rcases (show b1 = 0 ∨ 0 < b1 ∨ b1 < 0 by omega) with e1 | e1 | e1
        · rw [e1]; simp
        · have a1n : a1 ≤ 0 := by
            rcases Int.lt_or_le 0 a1 with c1 | c1
            · have := Int.mul_pos c1 e1; omega
            · exact c1
          have := Int.mul_nonneg ht (show 0 ≤ b1 by omega)
          rw [show ((b1.natAbs : Nat) : Int) = b1 by omega]; omega
        · have a1n : 0 ≤ a1 := by
            rcases Int.lt_or_le a1 0 with c1 | c1
            · have := Int.mul_pos_of_neg_of_neg c1 e1; omega
            · exact c1
          have := Int.mul_nonneg ht (show 0 ≤ -b1 by omega)
          have e2 : a0 / b0 * -b1 = -(a0 / b0 * b1) := Int.mul_neg ..
          rw [show ((b1.natAbs : Nat) : Int) = -b1 by omega]; omega
      rw [ab, ← hs]
      grind
    · rw [hz] at hs ⊢
      refine ⟨?_, by simp⟩
      simp at hs ⊢
      exact hs
  have lc : ((a1 - a0 / b0 * b1).natAbs : Int) ≤ v := by
    have n1 := Int.mul_nonneg (show 0 ≤ a0 - a0 / b0 * b0 by omega) (show (0 : Int) ≤ b1.natAbs by omega)
    have n2 := Int.mul_le_mul_of_nonneg_right (show 1 ≤ b0 by omega) (show (0 : Int) ≤ (a1 - a0 / b0 * b1).natAbs by omega)
    omega
  refine ⟨h.eb, ?_, by omega, fun d h1 h2 => h.cop d ?_ h1, hsum, hlc, h.lb, lc, .inl hb0⟩
  · have e1 := h.ea
    have e2 := h.eb
    generalize a0 / b0 = t at *
    rw [e1, e2]; grind
  · rw [show a0 = (a0 - a0 / b0 * b0) + a0 / b0 * b0 by omega]
    exact Int.dvd_add h2 (Int.dvd_mul_of_dvd_right h1)
end L3
set_option pp.maxSteps 600
namespace L3
open PySem PySem.Spec PyProof.Rows L2
local macro_rules | `(tactic| wtm_at "sh") => `(tactic| conv => whnf)
end L3
set_option pp.maxSteps 600
namespace L3
open PySem PySem.Spec PyProof.Rows L2
/-! ## a comprehension over a list of one's own, which stays -/
end L3
set_option pp.maxSteps 600
namespace L3
open PySem PySem.Spec PyProof.Rows L2
/-! ## rows with one number each: the plain law -/
/-! ### the lattice of such rows -/
end L3
set_option pp.maxSteps 600
namespace L3
open PySem PySem.Spec PyProof.Rows L2
local macro_rules | `(tactic| wtm_at "sh") => `(tactic| conv => whnf)
/-! ## rows with one number each: all to a size -/
end L3
set_option pp.maxSteps 600
namespace L3
open PySem PySem.Spec PyProof.Rows L2
local macro_rules | `(tactic| wtm_at "sh") => `(tactic| conv => whnf)
end L3
set_option pp.maxSteps 600
namespace L3
open PySem PySem.Spec PyProof.Rows L2
local macro_rules | `(tactic| wtm_at "sh") => `(tactic| conv => whnf)
/-! ## refusals of short rows -/
end L3
set_option pp.maxSteps 600
namespace L3
open PySem PySem.Spec PyProof.Rows L2
/-! ## rows taken off one another, place by place: none is left where one follows from the others -/
/-- all below the first row have nought in front: the determinant is the first number by that of the rest -/
theorem det_head {m : Nat} {h : List Int} {rest : Mat} (hs : Sq (m + 1) (m + 1) (h :: rest)) (h0 : ∀ r ∈ rest, r.getD 0 0 = 0) : detN (m + 1) (h :: rest) = h.getD 0 0 * detN m (minor 0 rest) := by
  obtain ⟨_, ht⟩ := hs.tail
  show sumR (m + 1) _ = _
  have z : ∀ k, k < m → h.getD (k + 1) 0 * sg (k + 1) * detN m (minor (k + 1) rest) = 0 := fun k hk => by
    have sq : Sq m m (minor (k + 1) rest) := ht.minor (by omega)
    rw [det_col0 m (minor (k + 1) rest) (by omega) sq fun r hr => by
      unfold minor at hr
      obtain ⟨s, hs2, rfl⟩ := List.mem_map.mp hr
      rw [get_erase, if_pos (by omega)]
      exact h0 s hs2, Int.mul_zero]
  have go : ∀ j, j ≤ m → sumR (j + 1) (fun k => h.getD k 0 * sg k * detN m (minor k rest)) = h.getD 0 0 * sg 0 * detN m (minor 0 rest) := by
    intro j
    induction j with
    | zero => intro _; show (0 : Int) + h.getD 0 0 * sg 0 * detN m (minor 0 rest) = _; rw [Int.zero_add]
    | succ j ih =>
      intro hj
      show sumR (j + 1) _ + h.getD (j + 1) 0 * sg (j + 1) * detN m (minor (j + 1) rest) = _
      rw [z j (by omega), ih (by omega)]; omega
  rw [go m (Nat.le_refl _)]
  show h.getD 0 0 * 1 * _ = _
  rw [Int.mul_one]
theorem det_front : ∀ (j n : Nat) (rows : Mat) (h : List Int), n ≤ 4 → Sq n n rows → rows[j]? = some h → (detN n (h :: rows.eraseIdx j)).natAbs = (detN n rows).natAbs
  | 0, n, rows, h, _, _, hj => by
    match rows, hj with
    | r :: rest, hj => cases hj; rfl
  | j + 1, n, rows, h, h4, hs, hj => by
    have hl := hs.1
    have hlt := (List.getElem?_eq_some_iff.mp hj).1
    obtain ⟨U, hU⟩ : ∃ U, rows[j]? = some U := ⟨_, List.getElem?_eq_getElem (by omega)⟩
    have sw := det_swap h4 hs (show j ≠ j + 1 by omega) hU hj
    have sq : Sq n n ((rows.set j h).set (j + 1) U) := (hs.set (hs.2 h (List.mem_of_getElem? hj))).set (hs.2 U (List.mem_of_getElem? hU))
    have ih := det_front j n ((rows.set j h).set (j + 1) U) h h4 sq (by rw [List.getElem?_set_ne (by omega), List.getElem?_set_self (by omega)])
    have e : ((rows.set j h).set (j + 1) U).eraseIdx j = rows.eraseIdx (j + 1) := by
      refine List.ext_getElem? fun c => ?_
      rw [List.getElem?_eraseIdx, List.getElem?_eraseIdx]
      by_cases h1 : c < j
      · rw [if_pos h1, if_pos (by omega), List.getElem?_set_ne (by omega), List.getElem?_set_ne (by omega)]
      · rw [if_neg h1]
        by_cases h2 : c = j
        · subst h2
          rw [List.getElem?_set_self (by rw [List.length_set]; omega), if_pos (by omega), hU]
        · rw [List.getElem?_set_ne (by omega), List.getElem?_set_ne (by omega), if_neg (by omega)]
    rw [e] at ih
    rw [ih, sw, Int.natAbs_neg]
/-- a row taken so many times less a head, so that its first number goes -/
abbrev lessR (h r : List Int) : List Int := vAdd (r.map (h.getD 0 0 * ·)) (-r.getD 0 0) h
theorem less_len {n : Nat} {h r : List Int} (hr : r.length = n) (hh : h.length = n) : (lessR h r).length = n := vAdd_len (by rw [List.length_map, hr]) hh
theorem less_zero {n : Nat} {h r : List Int} (hr : r.length = n) (hh : h.length = n) : (lessR h r).getD 0 0 = 0 := by
  rw [vAdd_getD (by rw [List.length_map, hr, hh])]
  have e : (r.map (h.getD 0 0 * ·)).getD 0 0 = h.getD 0 0 * r.getD 0 0 := by cases r <;> simp
  rw [e]; grind
theorem det_less {n i : Nat} {h r : List Int} {rest : Mat} (h4 : n ≤ 4) (hs : Sq n n (h :: rest)) (hi : rest[i]? = some r) : detN n (h :: rest.set i (lessR h r)) = h.getD 0 0 * detN n (h :: rest) := by
  have hl := hs.1
  have hin := (List.getElem?_eq_some_iff.mp hi).1
  have hin2 : i + 1 < n := by simp at hl; omega
  have lh := hs.2 h (by simp)
  have lr := hs.2 r (List.mem_cons_of_mem _ (List.mem_of_getElem? hi))
  have e1 := det_lin n (h :: rest) (i + 1) (r.map (h.getD 0 0 * ·)) h (-r.getD 0 0) hs hin2 (by rw [List.length_map, lr]) lh
  have e2 := det_scale (i := i + 1) (x := r) (h.getD 0 0) hs hin2 lr
  have e3 : detN n ((h :: rest).set (i + 1) h) = 0 := det_alt' h4 (hs.set lh) (show 0 ≠ i + 1 by omega) (by rw [List.getElem?_set_ne (by omega)]; rfl) (List.getElem?_set_self (by simp; omega))
  rw [e2, e3, set_same (rows := h :: rest) (i := i + 1) (x := r) hi, Int.mul_zero, Int.add_zero] at e1
  exact e1
theorem det_lessAll {n : Nat} {h : List Int} {rest : Mat} (h4 : n ≤ 4) (hs : Sq n n (h :: rest)) (h0 : h.getD 0 0 ≠ 0) (hd : detN n (h :: rest) ≠ 0) : detN n (h :: rest.map (lessR h)) ≠ 0 ∧ Sq n n (h :: rest.map (lessR h)) := by
  have lh := hs.2 h (by simp)
  have go : ∀ t, t ≤ rest.length → Sq n n (h :: ((rest.take t).map (lessR h) ++ rest.drop t)) ∧ detN n (h :: ((rest.take t).map (lessR h) ++ rest.drop t)) ≠ 0 := by
    intro t
    induction t with
    | zero => intro _; exact ⟨hs, hd⟩
    | succ t ih =>
      intro ht
      obtain ⟨s1, d1⟩ := ih (by omega)
      obtain ⟨r, hr⟩ : ∃ r, rest[t]? = some r := ⟨_, List.getElem?_eq_getElem (by omega)⟩
      have lt : ((rest.take t).map (lessR h)).length = t := by rw [List.length_map, List.length_take]; omega
      have at_ : ((rest.take t).map (lessR h) ++ rest.drop t)[t]? = some r := by
        rw [List.getElem?_append_right (by omega), lt, Nat.sub_self, List.getElem?_drop]; exact hr
      have e : ((rest.take t).map (lessR h) ++ rest.drop t).set t (lessR h r) = (rest.take (t + 1)).map (lessR h) ++ rest.drop (t + 1) := by
        rw [List.take_add_one, hr, List.map_append, List.set_append_right _ _ (by omega), lt, Nat.sub_self, List.append_assoc]
        congr 1
        rw [List.drop_eq_getElem_cons (by omega : t < rest.length)]
        rfl
      have dl := det_less h4 s1 at_
      rw [e] at dl
      refine ⟨?_, ?_⟩
      · rw [← e]
        refine ⟨by have := s1.1; simp only [List.length_cons, List.length_set] at this ⊢; exact this, fun x hx => ?_⟩
        rcases List.mem_cons.mp hx with rfl | hx
        · exact lh
        · rcases List.mem_or_eq_of_mem_set hx with hx | rfl
          · exact s1.2 x (List.mem_cons_of_mem _ hx)
          · exact less_len (hs.2 r (List.mem_cons_of_mem _ (List.mem_of_getElem? hr))) lh
      · rw [dl]
        exact Int.mul_ne_zero h0 d1
  obtain ⟨s1, d1⟩ := go rest.length (Nat.le_refl _)
  rw [List.take_length, List.drop_length, List.append_nil] at s1 d1
  exact ⟨d1, s1⟩
/-- one place further: what is left less the first place spans something still -/
theorem elim_step {m j : Nat} {B : Mat} {h : List Int} (h4 : m + 1 ≤ 4) (hs : Sq (m + 1) (m + 1) B) (hj : B[j]? = some h) (h0 : h.getD 0 0 ≠ 0) (hd : detN (m + 1) B ≠ 0) : Sq m m (minor 0 ((B.eraseIdx j).map (lessR h))) ∧ detN m (minor 0 ((B.eraseIdx j).map (lessR h))) ≠ 0 := by
  have hjn := (List.getElem?_eq_some_iff.mp hj).1
  have hl := hs.1
  have lh := hs.2 h (List.mem_of_getElem? hj)
  have sq : Sq (m + 1) (m + 1) (h :: B.eraseIdx j) := ⟨by rw [List.length_cons, List.length_eraseIdx, if_pos hjn]; omega, fun x hx => by
    rcases List.mem_cons.mp hx with rfl | hx
    · exact lh
    · exact hs.2 x (List.mem_of_mem_eraseIdx hx)⟩
  have fr := det_front j (m + 1) B h h4 hs hj
  obtain ⟨d1, s1⟩ := det_lessAll h4 sq h0 (by omega)
  have z : ∀ r ∈ (B.eraseIdx j).map (lessR h), r.getD 0 0 = 0 := fun r hr => by
    obtain ⟨s, hs2, rfl⟩ := List.mem_map.mp hr
    exact less_zero (hs.2 s (List.mem_of_mem_eraseIdx hs2)) lh
  rw [det_head s1 z] at d1
  obtain ⟨_, st⟩ := s1.tail
  exact ⟨st.minor (by omega), fun e => d1 (by rw [e, Int.mul_zero])⟩
end L3
set_option pp.maxSteps 600
namespace L3
open PySem PySem.Spec PyProof.Rows L2
local macro_rules | `(tactic| wtm_at "sh") => `(tactic| conv => whnf)
/-! ## rows taken off one another: the walk -/
/-- what is left behind p places: less the first p places it spans something where the rows do -/
structure Elim (n b p : Nat) (M L : Mat) : Prop where
  len : L.length = n - p
  row : ∀ r ∈ L, r.length = n
  sz : ∀ r ∈ L, SzL b r
  det : detN n M ≠ 0 → detN (n - p) (L.map (·.drop p)) ≠ 0
theorem Elim.start {n b : Nat} {M : Mat} (h : Sq n n M) (hz : ∀ r ∈ M, SzL b r) : Elim n b 0 M M := ⟨h.1, h.2, hz, fun k => by rw [show M.map (·.drop 0) = M by simp]; exact k⟩
theorem drop_head {r : List Int} {p : Nat} : (r.drop p).getD 0 0 = r.getD p 0 := by
  rw [List.getD_eq_getElem?_getD, List.getElem?_drop, Nat.add_zero, List.getD_eq_getElem?_getD]
theorem Elim.none {n b p : Nat} {M L : Mat} (h : Elim n b p M L) (hp : p < n) (hz : ∀ r ∈ L, r.getD p 0 = 0) : detN n M = 0 := by
  refine Classical.byContradiction fun hd => h.det hd ?_
  refine det_col0 (n - p) _ (by omega) ⟨by rw [List.length_map]; exact h.len, fun r hr => ?_⟩ fun r hr => ?_
  · obtain ⟨s, hs, rfl⟩ := List.mem_map.mp hr
    rw [List.length_drop, h.row s hs]
  · obtain ⟨s, hs, rfl⟩ := List.mem_map.mp hr
    rw [drop_head]; exact hz s hs
/-- what a row comes to when a head is taken off it -/
def offR (p : Nat) (h r : List Int) : List Int := List.zipWith (fun a c => a * h.getD p 0 - c * r.getD p 0) r h
theorem offR_len {n p : Nat} {h r : List Int} (hr : r.length = n) (hh : h.length = n) : (offR p h r).length = n := by unfold offR; rw [List.length_zipWith]; omega
theorem offR_at {n p c : Nat} {h r : List Int} (hr : r.length = n) (hh : h.length = n) (hc : c < n) : (offR p h r).getD c 0 = r.getD c 0 * h.getD p 0 - h.getD c 0 * r.getD p 0 := by
  have er : r[c]? = some (r.getD c 0) := by rw [List.getD_eq_getElem?_getD, List.getElem?_eq_getElem (by omega)]; rfl
  have eh : h[c]? = some (h.getD c 0) := by rw [List.getD_eq_getElem?_getD, List.getElem?_eq_getElem (by omega)]; rfl
  unfold offR
  rw [List.getD_eq_getElem?_getD, List.getElem?_zipWith, er, eh]; rfl
theorem map_erase {α β : Type} (f : α → β) : ∀ (l : List α) (j : Nat), (l.map f).eraseIdx j = (l.eraseIdx j).map f
  | [], j => by simp
  | a :: l, 0 => rfl
  | a :: l, j + 1 => by show f a :: (l.map f).eraseIdx j = f a :: (l.eraseIdx j).map f; rw [map_erase f l j]
theorem offR_drop {n p : Nat} {h r : List Int} (hr : r.length = n) (hh : h.length = n) (hp : p < n) : (lessR (h.drop p) (r.drop p)).eraseIdx 0 = (offR p h r).drop (p + 1) := by
  have ld : (r.drop p).length = n - p := by rw [List.length_drop, hr]
  have lh : (h.drop p).length = n - p := by rw [List.length_drop, hh]
  have ll : (lessR (h.drop p) (r.drop p)).length = n - p := less_len ld lh
  refine getD_ext (n := n - p - 1) (by rw [List.length_eraseIdx, if_pos (by omega), ll]) (by rw [List.length_drop, offR_len hr hh]; omega) fun c hc => ?_
  rw [get_erase, if_neg (by omega), vAdd_getD (by rw [List.length_map, ld, lh]), List.getD_eq_getElem?_getD (l := (offR p h r).drop (p + 1)), List.getElem?_drop, ← List.getD_eq_getElem?_getD, offR_at hr hh (by omega), drop_head, drop_head]
  have e1 : ((r.drop p).map (h.getD p 0 * ·)).getD (c + 1) 0 = h.getD p 0 * r.getD (p + 1 + c) 0 := by
    have er : r[p + 1 + c]? = some (r.getD (p + 1 + c) 0) := by rw [List.getD_eq_getElem?_getD, List.getElem?_eq_getElem (by omega)]; rfl
    rw [List.getD_eq_getElem?_getD, List.getElem?_map, List.getElem?_drop, show p + (c + 1) = p + 1 + c by omega, er]; rfl
  have e2 : (h.drop p).getD (c + 1) 0 = h.getD (p + 1 + c) 0 := by
    rw [List.getD_eq_getElem?_getD, List.getElem?_drop, show p + (c + 1) = p + 1 + c by omega, List.getD_eq_getElem?_getD]
  rw [e1, e2]
  grind
theorem Elim.step {n b p j : Nat} {M L : Mat} {h : List Int} (h4 : n ≤ 4) (E : Elim n b p M L) (hp : p < n) (hj : L[j]? = some h) (h0 : h.getD p 0 ≠ 0) : Elim n (2 * b + 1) (p + 1) M ((L.eraseIdx j).map (offR p h)) := by
  have hjn := (List.getElem?_eq_some_iff.mp hj).1
  have hm := List.mem_of_getElem? hj
  have lh := E.row h hm
  obtain ⟨m, em⟩ : ∃ m, n - p = m + 1 := ⟨n - p - 1, by omega⟩
  refine ⟨by rw [List.length_map, List.length_eraseIdx, if_pos hjn, E.len]; omega, fun r hr => ?_, fun r hr => ?_, fun hd => ?_⟩
  · obtain ⟨s, hs, rfl⟩ := List.mem_map.mp hr
    exact offR_len (E.row s (List.mem_of_mem_eraseIdx hs)) lh
  · obtain ⟨s, hs, rfl⟩ := List.mem_map.mp hr
    have ms := List.mem_of_mem_eraseIdx hs
    intro c
    by_cases hc : c < n
    · rw [offR_at (E.row s ms) lh hc]
      have s1 := (E.sz s ms c).mul (E.sz h hm p)
      have s2 := (E.sz h hm c).mul (E.sz s ms p)
      rw [show 2 * b + 1 = b + b + 1 by omega]
      exact s1.sub s2
    · rw [getD_big (by rw [offR_len (E.row s ms) lh]; omega)]
      unfold Sz
      exact Nat.pow_pos (by decide)
  · have dd := E.det hd
    rw [em] at dd
    have sq : Sq (m + 1) (m + 1) (L.map (·.drop p)) := ⟨by rw [List.length_map, E.len, em], fun r hr => by
      obtain ⟨s, hs, rfl⟩ := List.mem_map.mp hr
      rw [List.length_drop, E.row s hs, em]⟩
    obtain ⟨_, d2⟩ := elim_step (by omega) sq (j := j) (h := h.drop p) (by rw [List.getElem?_map, hj]; rfl) (by rw [drop_head]; exact h0) dd
    have e : minor 0 (((L.map (·.drop p)).eraseIdx j).map (lessR (h.drop p))) = ((L.eraseIdx j).map (offR p h)).map (·.drop (p + 1)) := by
      unfold minor
      rw [map_erase, List.map_map, List.map_map, List.map_map]
      refine List.map_congr_left fun r hr => ?_
      exact offR_drop (E.row r (List.mem_of_mem_eraseIdx hr)) lh hp
    rw [e] at d2
    rw [show n - (p + 1) = m by omega]
    exact d2
end L3
set_option pp.maxSteps 600
namespace L3
open PySem PySem.Spec PyProof.Rows L2
local macro_rules | `(tactic| wtm_at "sh") => `(tactic| conv => whnf)
/-! ## no lattices of short rows -/
theorem rep_ints : ∀ n : Nat, (List.replicate n [PyData.int 0]).flatten = (List.replicate n (0 : Int)).map PyData.int
  | 0 => rfl
  | n + 1 => by
    rw [List.replicate_succ, List.flatten_cons, rep_ints n, List.replicate_succ]; rfl
/-- rows that are no lattice, small enough to be asked -/
structure BadOk (M : Mat) : Prop where
  h5 : M.length ≤ 5
  r5 : ∀ r ∈ M, r.length ≤ 5
  sz : ∀ r ∈ M, SzL 140 r
  bad : BadR M
theorem BadOk.of {M : Mat} (h5 : M.length ≤ 5) (r5 : ∀ r ∈ M, r.length ≤ 5) (sz : ∀ r ∈ M, SzL 140 r) (h4 : sqB M = true → M.length ≤ 4) (hl : latB M = false) : BadOk M := ⟨h5, r5, sz, 140, by omega, fun r hr => by have := r5 r hr; omega, h4, sz, by decide, hl⟩
theorem BadOk.odd {M : Mat} {r : List Int} (h5 : M.length ≤ 5) (r5 : ∀ r ∈ M, r.length ≤ 5) (sz : ∀ r ∈ M, SzL 140 r) (hr : r ∈ M) (hne : r.length ≠ M.length) : BadOk M := .of h5 r5 sz (fun h => absurd ((sqB_iff.mp h).2.2 r hr) hne) (latB_odd hr hne)
end L3
set_option pp.maxSteps 600
namespace L3
open PySem PySem.Spec PyProof.Rows L2
/-! ## any lattice has planted rows -/
end L3
set_option pp.maxSteps 600
namespace L3
open PySem PySem.Spec PyProof.Rows L2
/-! ## not in a list of data -/
/-! ## rows taken off one another: where all goes well they are a lattice -/
end L3
set_option pp.maxSteps 600
namespace L3
open PySem PySem.Spec PyProof.Rows L2
local macro_rules | `(tactic| wtm_at "sh") => `(tactic| conv => whnf)
theorem szl_snoc {b : Nat} {x : List Int} {a : Int} (z : SzL b x) (h : Sz b a) : SzL b (x ++ [a]) := fun c => by
  rw [app_getD]
  split
  · exact z c
  · split
    · exact h
    · unfold Sz; exact Nat.pow_pos (by decide)
theorem sz_zero (b : Nat) : Sz b 0 := by unfold Sz; exact Nat.pow_pos (by decide)
end L3
set_option pp.maxSteps 600
namespace L3
open PySem PySem.Spec PyProof.Rows L2
local macro_rules | `(tactic| wtm_at "sh") => `(tactic| conv => whnf)
theorem sgn_at (i : Nat) : ∃ z, getI [PyData.int 1, .int (-1)] ((i : Int) % 2) = some z ∧ z = .int (sg i) := by
  unfold sg
  rcases (show i % 2 = 0 ∨ i % 2 = 1 by omega) with h | h
  · rw [show (i : Int) % 2 = 0 by omega, if_pos h]; exact ⟨_, rfl, rfl⟩
  · rw [show (i : Int) % 2 = 1 by omega, if_neg (by omega)]; exact ⟨_, rfl, rfl⟩
end L3
set_option pp.maxSteps 600
namespace L3
open PySem PySem.Spec PyProof.Rows L2
local macro_rules | `(tactic| wtm_at "sh") => `(tactic| conv => whnf)
/-! ## all sums of rows, by bounds for their multiples -/
end L3
set_option pp.maxSteps 600
namespace L3
open PySem PySem.Spec PyProof.Rows L2
local macro_rules | `(tactic| wtm_at "sh") => `(tactic| conv => whnf)
end L3
set_option pp.maxSteps 600
namespace L3
open PySem PySem.Spec PyProof.Rows L2
local macro_rules | `(tactic| wtm_at "sh") => `(tactic| conv => whnf)
theorem AllTo.same {n : Nat} {M M' L : Mat} {s : Int} (h0 : Sq n n M) (h : Same n M M') (k : AllTo n M' s L) : AllTo n M s L := ⟨k.1, fun x => by rw [k.2, h.iff h0]⟩
end L3
set_option pp.maxSteps 600
namespace L3
open PySem PySem.Spec PyProof.Rows L2
local macro_rules | `(tactic| wtm_at "sh") => `(tactic| conv => whnf)
end L3
set_option pp.maxSteps 600
namespace L3
open PySem PySem.Spec PyProof.Rows L2
local macro_rules | `(tactic| wtm_at "sh") => `(tactic| conv => whnf)
/-! ## reduced rows are hardly longer than the first ones -/
end L3
set_option pp.maxSteps 600
namespace L3
open PySem PySem.Spec PyProof.Rows L2
/-! ## lattices so many times as great, and with a place turned below nought -/
end L3
set_option pp.maxSteps 600
namespace L3
open PySem PySem.Spec PyProof.Rows L2
local macro_rules | `(tactic| wtm_at "sh") => `(tactic| conv => whnf)
end L3
set_option pp.maxSteps 600
namespace L3
open PySem PySem.Spec PyProof.Rows L2
/-! ## names for a list's items -/
def gTupL (K : PySem.W.Frag) (n : Nat) (t : TGs) : TG := fun v σ H Q => ∃ a xs, v = .ref a ∧ SqL K H a xs ∧ xs.length = n ∧ t xs σ H Q
theorem pg_tupL {X : Cx} {pos : Pos} {es : List Expr} {k : Nat} {t : TGs} {n : Nat} (hc : X.calm = true) (h : PGs X es t)
    (hn : (assignEach es X.env).length = n := by rfl) (hst : (assignEach es X.env).findIdx? (·.1) = none := by rfl) : L2.PG X (.Tuple es k pos) (gTupL X.K n t) := by
  refine ⟨fun pins s σ H v u Q I r hw => ?_⟩
  obtain ⟨a, xs, e1, hq, hl, hw⟩ := hw
  subst e1
  cases r
  obtain ⟨its, rv, pl, hz⟩ := I.list hq
  have hsz : (assignEach es X.env).length = its.toArray.size := by simp [hn, ← hl, rv.length]
  rw [assign_Tuple]
  refine wpAny_bind (wpAny_standAt ?_)
  unfold unpack
  rw [hsz, hst]
  refine wpAny_bind (wpAny_holding (PySem.W.kun_itemsOf (I.ok.hd hc) pl.isList fun h' hx => ?_))
  have I1 : Inv X pins σ H { s with heap := h' } := I.kept (t' := s.toks) fun b o e => hx b o (Nat.ne_of_lt (Heap.lt_size e)) e
  exact h.run pins _ σ H xs _ Q I1 (by simpa using rv) hw
def xGTupL (n : Nat) (gs : TGs3) : TG3 := fun x r Q => match x with | .own _ l => l.length = n ∧ gs l r Q | .d (.list l) => l.length = n ∧ gs (l.map T.d) r Q | _ => False
theorem g3_tupL {X : Cx} {pos : Pos} {es : List Expr} {js : List Nat} {gs : TGs3} {kk n : Nat} (hc : X.calm = true) (h : Gs3 X es js gs) (hn : (assignEach es X.env).length = n := by rfl) (hst : (assignEach es X.env).findIdx? (·.1) = none := by rfl) : G3 X (.Tuple es kk pos) js (xGTupL n gs) := by
  obtain ⟨te, ea, sa⟩ := h.ex
  refine ⟨_, pg_tupL hc ea hn hst, fun G Z H ks vs r s x v Q Q3 st hg k => ?_⟩
  unfold xGTupL at hg
  split at hg
  · rename_i a0 l
    cases st.top with
    | @own _ _ xs h1 h2 =>
      have hl : l.length = xs.length := rts_len h2
      have st0 := st.pop
      have st4 : S3 X.K G Z H (l ++ ks) (xs ++ vs) r s := ⟨st.zh, st.gh, fun a => by have := st.one a; simp only [cts, ct] at this; rw [cts_append]; omega, fun a c => st.ow a (by rw [cts_append] at c; simp only [cts, ct]; omega), rts_app h2 st0.stk, st.slot, st.len⟩
      exact ⟨a0, xs, rfl, SqL.of h1, by rw [← hl]; exact hg.1, sa G Z H ks vs r s _ xs Q Q3 hl st4 hg.2 k⟩
  · rename_i l
    cases st.top with
    | d h =>
      cases h with
      | @lst a0 xs _ hs ha =>
        have hl : l.length = xs.length := dpa_len ha
        have st0 := st.pop
        have st4 : S3 X.K G Z H (l.map T.d ++ ks) (xs ++ vs) r s := ⟨st0.zh, st0.gh, fun a => by rw [cts_append, cts_d]; have := st0.one a; omega, fun a c => st0.ow a (by rw [cts_append, cts_d] at c; omega), rts_app (rts_of_dpa ha) st0.stk, st0.slot, st0.len⟩
        exact ⟨a0, xs, rfl, SqL.of (st.zh _ _ hs), by rw [← hl]; exact hg.1, sa G Z H ks vs r s _ xs Q Q3 (by rw [List.length_map]; exact hl) st4 hg.2 k⟩
  · exact hg.elim
end L3
set_option pp.maxSteps 600
namespace L3
open PySem PySem.Spec PyProof.Rows L2 TL
/-! ## papers' laws: drawn numbers, drawn rows -/
def N_law_draw_1 : List Str := ["_law_script", "_law_k", "_law_many", "_law_cell", "_law_turn", "_law_mixed"]
def body_law_draw_1 : TS3 := (xSeq (xAsg (xD (x2 kMax (xC (.int 1)) (x1 cLen (xView 0)))) (xGName 2))
  (xSeq (xAsg (xD (x2 cIx (xFz (x2 cAdd (xFz (x1 cLst (xView 0))) (xFz (xLst (xCons (xD (xC (.int 0))) xNil))))) (x2 kMod (xView 1) (xView 2)))) (xGName 3))
  (xSeq (xIfS (xOr (xTest (x2 kGe (xView 3) (x2 kPow (xC (.int 10)) (xC (.int 18))))) (xTest (x2 kLe (xView 3) (xNeg (x2 kPow (xC (.int 10)) (xC (.int 18))))))) (xSeq (xFor (xR1 (x2 kMin (x2 kDiv (xView 1) (xView 2)) (xC (.int 60)))) (xGName 4) (xAsg (xD (x2 kDiv (xView 3) (xC (.int 1000003)))) (xGName 3)))
  (xRet (xD (x2 kMod (xView 3) (xC (.int 1000003)))))) xNext)
  (xSeq (xAsg (xD (x2 kMod (x2 kMul (x2 kAdd (x2 kAdd (x2 kMod (xView 3) (xC (.int 2147483629))) (xC (.int 17))) (x2 kMul (xC (.int 68209)) (x2 kDiv (xView 1) (xView 2)))) (xC (.int 47791))) (xC (.int 2147483629)))) (xGName 5))
  (xSeq (xAsg (xD (x2 kMod (x2 kMul (xView 5) (xView 5)) (xC (.int 2147483587)))) (xGName 5))
  (xRet (xD (x2 kMod (x2 kMul (xView 5) (xC (.int 38839))) (xC (.int 2147483579))))))))))
def sp_law_draw_1 : Sp3 := fun ts Q _ => ∃ a ns k, ts = [.sc a ns, .d (.int k)] ∧ ns.length ≤ 63 ∧ 0 ≤ k ∧ k ≤ 100000 ∧ ∀ y : Int, 0 ≤ y → y < 2147483647 → Q (.d (.int y)) ts
theorem v_law_draw_1 (ts Q E) (h : sp_law_draw_1 ts Q E) : body_law_draw_1 { nx := fun r => finOk ts r ∧ Q (.d .none) (finF ts r), rt := fun x r => finOk ts r ∧ Q x (finF ts r) } (start3 N_law_draw_1 ts) := by
  obtain ⟨a, ns, k, rfl, hl, k0, k1, q⟩ := h
  have few : ns.length + 1 ≤ sizeLine := Nat.le_trans (show ns.length + 1 ≤ 64 by omega) (by decide)
  have hm : (0 : Int) < max 1 (ns.length : Int) := by omega
  have b1 := em_b k (max 1 (ns.length : Int)) hm
  have p18 : CPow 10 18 := ⟨by decide, by decide, by decide⟩
  refine fun p => ⟨nvs_map _ _, ?_⟩
  rw [fz_own p PyData.int ns]
  refine ⟨sz 1, fun p1 => ⟨rfl, ?_⟩⟩
  refine ⟨by rw [List.length_map]; exact few, fun pc => ?_⟩
  have eL : List.map T.d (List.map PyData.int ns) ++ List.map T.d (fzs [T.d (PyData.int 0)]) = (ns ++ [0]).map fun n => T.d (.int n) := by
    rw [List.map_append, List.map_map]; rfl
  rw [eL]
  refine ⟨nvs_mapT _ _ fun _ _ => rfl, ?_⟩
  rw [fz_own pc PyData.int (ns ++ [0])]
  obtain ⟨c, hc⟩ : ∃ c, getI ((ns ++ [0]).map PyData.int) (k % max 1 (ns.length : Int)) = some (.int c) := by
    obtain ⟨x, hx, _, hm⟩ := getI_of (l := (ns ++ [0]).map PyData.int) b1.1 (by rw [List.length_map, List.length_append, List.length_singleton]; omega)
    obtain ⟨y, _, rfl⟩ := List.mem_map.mp hm
    exact ⟨y, hx⟩
  have t0 : 0 ≤ k / max 1 (ns.length : Int) := Int.ediv_nonneg k0 (by omega)
  have t1 : k / max 1 (ns.length : Int) ≤ k := Int.ediv_le_self _ k0
  have dv : CDivW k (max 1 (ns.length : Int)) := divOk (n := 6) hm (by unfold Sz; omega) (by decide)
  have loop : ∀ {D : Ends3} {s5 : Option T}, (∀ c2 s4, D.rt (.d (.int (c2 % 1000003))) [some (.sc a ns), some (.d (.int k)), some (.d (.int (max 1 (ns.length : Int)))), some (.d (.int c2)), s4, s5]) → (xSeq (xFor (xR1 (x2 kMin (x2 kDiv (xView 1) (xView 2)) (xC (.int 60)))) (xGName 4) (xAsg (xD (x2 kDiv (xView 3) (xC (.int 1000003)))) (xGName 3)))
      (xRet (xD (x2 kMod (xView 3) (xC (.int 1000003)))))) D [some (.sc a ns), some (.d (.int k)), some (.d (.int (max 1 (ns.length : Int)))), some (.d (.int c)), none, s5] := fun {D} {s5} kk => by
    refine ⟨dv, by omega, by omega, fun i r => ∃ c2 s4, r = [some (.sc a ns), some (.d (.int k)), some (.d (.int (max 1 (ns.length : Int)))), some (.d (.int c2)), s4, s5], ⟨_, _, rfl⟩, fun i x r hx hW => ?_, fun r hW => ?_⟩
    · obtain ⟨c2, s4, rfl⟩ := hW
      obtain ⟨_, rfl⟩ := rangeI_get hx
      exact ⟨divOk (n := 20) pz (by unfold Sz; decide) (by decide), _, _, rfl⟩
    · obtain ⟨c2, s4, rfl⟩ := hW
      exact ⟨pz, kk _ _⟩
  have fin1 : ∀ c2 s4 s5, finOk [T.sc a ns, T.d (.int k)] [some (.sc a ns), some (.d (.int k)), some (.d (.int (max 1 (ns.length : Int)))), some (.d (.int c2)), s4, s5] ∧ Q (.d (.int (c2 % 1000003))) (finF [T.sc a ns, T.d (.int k)] [some (.sc a ns), some (.d (.int k)), some (.d (.int (max 1 (ns.length : Int)))), some (.d (.int c2)), s4, s5]) := fun c2 s4 s5 => ⟨⟨⟩, by have := em_b c2 1000003; exact q _ (by omega) (by omega)⟩
  have e1 := em_b c 2147483629
  refine ⟨hm, _, hc, p18, fun _ => ⟨fun _ => loop fun c2 s4 => fin1 _ _ _, nofun⟩, fun _ => ⟨p18, fun _ => loop fun c2 s4 => fin1 _ _ _, fun _ => ?_⟩⟩
  refine ⟨pz, dv, mulOkL (by decide) (by decide), ?_⟩
  generalize hu : (c % 2147483629 + 17 + 68209 * (k / max 1 (ns.length : Int))) = u
  have hu1 : 0 ≤ u ∧ u < 2 ^ 62 := by omega
  have e2 := em_b (u * 47791) 2147483629
  generalize hv : u * 47791 % 2147483629 = v at e2
  have e3 := em_b (v * v) 2147483587
  generalize hw : v * v % 2147483587 = w at e3
  have e4 := em_b (w * 38839) 2147483579
  subst hw; subst hv; subst hu
  exact ⟨mulOkL (by omega) (by omega), pz, mulOkL (by omega) (by omega), pz, mulOkL (by omega) (by omega), pz, ⟨⟩, q _ e4.1 (by omega)⟩
def N_law_number_2 : List Str := ["_law_script", "_law_at", "_law_most", "_law_figures", "_law_k"]
def body_law_number_2 : TS3 := (xSeq (xAsg (xD (x2 kAdd (xC (.int 1)) (x2 kMod (xFz (xCall sp_law_draw_1 xNoE (xArg (xView 0) (xArg (xView 1) xANil)))) (xView 2)))) (xGName 3))
  (xRet (xD (x1 cInt (xJoin (xC (.str "")) (xFz (xLc (xR1 (xView 3)) (xGName 4) xYes (xD (x1 cStr (x2 kMod (xFz (xCall sp_law_draw_1 xNoE (xArg (xView 0) (xArg (x2 kAdd (x2 kAdd (xView 1) (xC (.int 1))) (xView 4)) xANil)))) (xC (.int 10))))) [4])))))))
/-- joined signs, nothing between -/
theorem joinL_nil : ∀ (l : List (List Nat)), joinL [] l = l.flatten
  | [] => rfl
  | [p] => by simp [joinL]
  | p :: q :: r => by
    show p ++ ([] ++ joinL [] (q :: r)) = _
    rw [joinL_nil (q :: r)]; simp
theorem dig_tl {d : Int} (h0 : 0 ≤ d) (h1 : d < 10) : tl (Str.ofString (toString d)) = [48 + d.toNat] := by
  rcases (show d = 0 ∨ d = 1 ∨ d = 2 ∨ d = 3 ∨ d = 4 ∨ d = 5 ∨ d = 6 ∨ d = 7 ∨ d = 8 ∨ d = 9 by omega) with rfl | rfl | rfl | rfl | rfl | rfl | rfl | rfl | rfl | rfl <;> decide +kernel
theorem dval_lt : ∀ (cs : List Nat) (a m : Nat), NumText.AllDigits cs → a < 10 ^ m → cs.foldl (fun acc c => acc * 10 + (c - 48)) a < 10 ^ (m + cs.length)
  | [], a, m, _, h => h
  | c :: cs, a, m, hd, h => by
    have hc := hd.head
    show cs.foldl _ (a * 10 + (c - 48)) < _
    have := dval_lt cs (a * 10 + (c - 48)) (m + 1) hd.tail (by rw [Nat.pow_succ]; omega)
    rw [List.length_cons, show m + (cs.length + 1) = m + 1 + cs.length by omega]
    exact this
theorem digits_val {ds : List Int} (hd : ∀ d ∈ ds, 0 ≤ d ∧ d < 10) (h0 : ds ≠ []) (hl : ds.length ≤ 38) : ∃ n : Nat, PySem.intText? (Txt.join "" (ds.map fun d => Str.ofString (toString d))) = some (n : Int) ∧ n < 10 ^ 38 ∧ (Txt.join "" (ds.map fun d => Str.ofString (toString d))).length ≤ 38 := by
  have et : tl (Txt.join "" (ds.map fun d => Str.ofString (toString d))) = ds.map fun d => 48 + d.toNat := by
    rw [join_eq, tl_join, show tl ("" : Str) = [] from rfl, joinL_nil, List.map_map]
    clear h0 hl
    induction ds with
    | nil => rfl
    | cons d ds ih =>
      rw [List.map_cons, List.flatten_cons, List.map_cons, ih fun x hx => hd x (List.mem_cons_of_mem _ hx)]
      have := hd d (by simp)
      show tl (Str.ofString (toString d)) ++ _ = _
      rw [dig_tl this.1 this.2]; rfl
  have ll : (Txt.join "" (ds.map fun d => Str.ofString (toString d))).length = ds.length := by
    rw [len_tl, et, List.length_map]
  have ad : NumText.AllDigits (tl (Txt.join "" (ds.map fun d => Str.ofString (toString d)))) := fun c hc => by
    rw [et] at hc
    obtain ⟨d, h, rfl⟩ := List.mem_map.mp hc
    have := hd d h
    omega
  refine ⟨_, intText_digits ad ?_ (by omega), ?_, by omega⟩
  · intro e
    have : tl (Txt.join "" (ds.map fun d => Str.ofString (toString d))) = [] := e
    rw [et] at this
    exact h0 (List.map_eq_nil_iff.mp this)
  · have := dval_lt _ 0 0 ad (by decide)
    have hlen : (tl (Txt.join "" (ds.map fun d => Str.ofString (toString d)))).length = ds.length := by rw [et, List.length_map]
    rw [hlen, Nat.zero_add] at this
    exact Nat.lt_of_lt_of_le this (Nat.pow_le_pow_right (by decide) hl)
def sp_law_number_2 : Sp3 := fun ts Q _ => ∃ a ns k m, ts = [.sc a ns, .d (.int k), .d (.int m)] ∧ ns.length ≤ 63 ∧ 0 ≤ k ∧ k ≤ 99000 ∧ 1 ≤ m ∧ m ≤ 38 ∧ ∀ n : Nat, n < 10 ^ 38 → Q (.d (.int (n : Int))) ts
theorem v_law_number_2 (ts Q E) (h : sp_law_number_2 ts Q E) : body_law_number_2 { nx := fun r => finOk ts r ∧ Q (.d .none) (finF ts r), rt := fun x r => finOk ts r ∧ Q x (finF ts r) } (start3 N_law_number_2 ts) := by
  obtain ⟨a, ns, k, m, rfl, hl, k0, k1, m0, m1, q⟩ := h
  have hb2 : 1000 < sizeLine := by decide
  refine ⟨nd0, a, ns, k, rfl, hl, k0, by omega, fun y y0 y1 => ⟨by omega, ?_⟩⟩
  have b1 := em_b y m (by omega)
  refine ⟨by omega, by omega, fun p => ⟨fun i acc r => ∃ ds : List Int, r = [some (.sc a ns), some (.d (.int k)), some (.d (.int m)), some (.d (.int (1 + y % m))), none] ∧ acc = (ds.map fun d => T.d (.str (Str.ofString (toString d)))) ∧ ds.length = i ∧ (∀ d ∈ ds, 0 ≤ d ∧ d < 10), ⟨[], rfl, rfl, rfl, fun d hd => by cases hd⟩, fun i x acc r hx hW => ?_, fun acc r hW => ?_⟩⟩
  · obtain ⟨ds, rfl, rfl, hi, hd⟩ := hW
    obtain ⟨hi1, rfl⟩ := rangeI_get hx
    refine ⟨fun _ => ⟨nd0, a, ns, _, rfl, hl, by omega, by omega, fun z z0 z1 => ⟨pz, ?_⟩⟩, nofun⟩
    have b2 := em_b z 10
    refine ⟨?_, by rw [List.length_map]; omega, ds ++ [z % 10], rfl, by rw [List.map_append]; rfl, by rw [List.length_append]; simp; omega, fun d h => ?_⟩
    · have : (z % 10).natAbs < 10 := by omega
      have h2 : (z % 10).natAbs.log2 ≤ (z % 10).natAbs := Nat.log2_le_self _
      omega
    · rcases List.mem_append.mp h with h | h
      · exact hd d h
      · rw [List.mem_singleton.mp h]; exact b2
  · obtain ⟨ds, rfl, rfl, hi, hd⟩ := hW
    rw [rangeI_len] at hi
    obtain ⟨n, e1, e2, e3⟩ := digits_val hd (fun e => by rw [e] at hi; simp at hi; omega) (by omega)
    refine ⟨nvs_mapT _ _ fun _ _ => rfl, ?_⟩
    rw [fz_own p (fun d : Int => PyData.str (Str.ofString (toString d))) ds]
    refine ⟨ds.map fun d => Str.ofString (toString d), by rw [List.map_map]; rfl, ?_, n, e1, by omega, ⟨⟩, q n e2⟩
    have hs : ∀ l : List Int, (∀ d ∈ l, 0 ≤ d ∧ d < 10) → ((l.map fun d => Str.ofString (toString d)).map (·.length)).sum = l.length := by
      intro l
      induction l with
      | nil => intro _; rfl
      | cons d l ih =>
        intro h
        rw [List.map_cons, List.map_cons, List.sum_cons, ih fun x hx => h x (List.mem_cons_of_mem _ hx), len_tl, dig_tl (h d (by simp)).1 (h d (by simp)).2]
        show 1 + l.length = l.length + 1
        omega
    rw [hs ds hd, show (Str.ofString "").length = 0 from rfl, Nat.mul_zero]
    omega
def N_law_without : List Str := ["_law_rows_here", "_law_skip_row", "_law_skip_place", "_law_kept", "_law_k", "_law_row"]
def body_law_without : TS3 := (xSeq (xAsg (xLc (xR1 (x1 cLen (xView 0))) (xGName 4) (xTest (x2 kNe (xView 4) (xView 1))) (xD (x2 cIx (xView 0) (xView 4))) [4]) (xGName 3))
  (xFzS 3 (xRet (xLc (xSeqI (xView 3)) (xGName 5) xYes (x2 cAdd (xFz (xSl (xView 5) xNo (xSome (xView 2)))) (xFz (xSl (xView 5) (xSome (x2 kAdd (xView 2) (xC (.int 1)))) xNo))) [5]))))
abbrev matLT (M : Mat) : PyData := .list (M.map rowT)
def matQ : Bool → Mat → PyData
  | true, M => matP M
  | false, M => matLT M
def sp_law_without : Sp3 := fun ts Q _ => ∃ pb M n i k x y, ts = [.d (matQ pb M), .d (.int x), .d (.int y)] ∧ x = ((i : Nat) : Int) ∧ y = ((k : Nat) : Int) ∧ Sq n n M ∧ n ≤ 4 ∧ i < n ∧ k < n ∧ ∀ p, Q (.own p ((minor k (M.eraseIdx i)).map fun r => T.d (rowT r))) ts
theorem range_cut {n : Nat} {M : Mat} {i : Nat} (h : M.length = n) : ((List.range n).filter fun c => decide (c ≠ i)).map (fun c => M.getD c []) = M.eraseIdx i := by
  subst h
  have hz := zip_filt M 0 i
  rw [← hz]
  have e : M.zipIdx = (List.range M.length).map fun c => (M.getD c [], c) := by
    refine List.ext_getElem? fun c => ?_
    rw [List.getElem?_zipIdx, List.getElem?_map]
    by_cases hc : c < M.length
    · have eg : M.getD c [] = M[c] := by rw [List.getD_eq_getElem?_getD, List.getElem?_eq_getElem hc]; rfl
      rw [List.getElem?_range hc, List.getElem?_eq_getElem hc, Nat.zero_add, Option.map_some, Option.map_some, eg]
    · rw [List.getElem?_eq_none (l := List.range M.length) (by rw [List.length_range]; omega), List.getElem?_eq_none (l := M) (by omega)]; rfl
  rw [e, List.filter_map, List.map_map]
  refine congrArg (List.map _) (List.filter_congr fun c _ => ?_)
  show _ = decide (((c : Nat) : Int) ≠ ((0 + i : Nat) : Int))
  exact decide_eq_decide.mpr (by omega)
theorem v_law_without (ts Q E) (h : sp_law_without ts Q E) : body_law_without { nx := fun r => finOk ts r ∧ Q (.d .none) (finF ts r), rt := fun x r => finOk ts r ∧ Q x (finF ts r) } (start3 N_law_without ts) := by
  obtain ⟨pb, M, n, i, k, x, y, rfl, ex, ey, hs, h4, hi, hk, q⟩ := h
  have hb2 : 1000 < sizeLine := by decide
  have hl := hs.1
  have lm : (M.map rowT).length = n := by rw [List.length_map, hl]
  have en : rangeI 0 ((M.map rowT).length : Int).toNat = (List.range n).map fun c => PyData.int (0 + (c : Nat)) := by
    unfold rangeI; rw [show ((M.map rowT).length : Int).toNat = n by omega]
  cases pb <;> (
    refine ⟨by omega, by omega, ?_⟩
    refine lf_cut (fun c => rowT (M.getD c [])) (fun c => decide (c ≠ i)) (List.range n) en (by rw [List.length_range]; omega) (fun r0 h0 c hc R S ku kn => ?_) fun r0 h0 p2 => ?_
    · simp only [wp, puts, List.set_cons_succ, List.set_cons_zero] at h0; subst h0
      have hcn := List.mem_range.mp hc
      have e : (!PyData.eqv (.int (0 + (c : Int))) (.int x)) = decide (c ≠ i) := by
        rw [show PyData.eqv (.int (0 + (c : Int))) (.int x) = decide (0 + (c : Int) = x) from rfl, ← decide_not]
        exact decide_eq_decide.mpr (by omega)
      have gm : getI (M.map rowT) (0 + (c : Int)) = some (rowT (M.getD c [])) := getI_at (k := c) (by omega) (by rw [List.getElem?_map, List.getD_eq_getElem?_getD, List.getElem?_eq_getElem (by omega)]; rfl)
      exact ⟨rfl, rfl, fun h => ⟨_, gm, ku (e.symm.trans h) _ rfl⟩, fun h => kn (e.symm.trans h) _ rfl⟩
    simp only [wp, puts, List.set_cons_succ, List.set_cons_zero] at h0; subst h0
    rw [show ((List.range n).filter fun c => decide (c ≠ i)).map (fun u => T.d (rowT (M.getD u []))) = (M.eraseIdx i).map fun r => T.d (rowT r) by rw [← range_cut hl, List.map_map]; rfl]
    refine ⟨nvs_mapT _ _ fun _ _ => rfl, ?_⟩
    rw [show fz (T.own p2 ((M.eraseIdx i).map fun r => T.d (rowT r))) = .list ((M.eraseIdx i).map rowT) from fz_own p2 rowT _]
    have le : (M.eraseIdx i).length = n - 1 := by rw [List.length_eraseIdx, if_pos (by omega), hl]
    refine lc_gen ((minor k (M.eraseIdx i)).map rowT) (by unfold minor; rw [List.length_map, List.length_map, List.length_map]) (by rw [List.length_map]; omega) (fun r0 h0 c u w2 hu hw R S ku => ?_) fun r0 h0 p3 => ?_
    · simp only [wp, puts, List.set_cons_succ, List.set_cons_zero] at h0; subst h0
      obtain ⟨v, hv, rfl⟩ := get_fun hu
      have mv := List.mem_of_mem_eraseIdx (List.mem_of_getElem? hv)
      have lv := hs.2 v mv
      have hw2 : (((M.eraseIdx i).map (·.eraseIdx k)).map rowT)[c]? = some w2 := hw
      rw [List.getElem?_map, List.getElem?_map, hv] at hw2
      cases hw2
      have e := erase_cut (r := v) (k := k) (by omega)
      rw [← ey] at e
      have c1 : (cutL (v.map PyData.int) none (some y)).length + (cutL (v.map PyData.int) (some (y + 1)) none).length ≤ sizeLine := by
        rw [← List.length_append, e, List.length_map, List.length_eraseIdx]
        split <;> omega
      refine ⟨fun _ => ⟨c1, ?_⟩, nofun⟩
      show R (.d (.tuple (cutL (v.map PyData.int) none (some y) ++ cutL (v.map PyData.int) (some (y + 1)) none))) _
      rw [e]
      exact ku _ rfl
    simp only [wp, puts, List.set_cons_succ, List.set_cons_zero] at h0; subst h0
    rw [List.map_map]
    exact ⟨⟨⟩, q p3⟩)
def N_law_spanned : List Str := ["_law_rows_here", "_law_total", "_law_k", "_law_part"]
def body_law_spanned (sp_law_spanned : Sp3) : TS3 := (xSeq (xIfS (xTest (x2 kEqI (x1 cLen (xView 0)) (xC (.int 0)))) (xRet (xD (xC (.int 1)))) xNext)
  (xSeq (xAsg (xD (xC (.int 0))) (xGName 1))
  (xSeq (xFor (xR1 (x1 cLen (xView 0))) (xGName 2) (xSeq (xAsg (xD (x2 kMul (x2 cIx (x2 cIx (xView 0) (xC (.int 0))) (xView 2)) (xFz (xCall sp_law_spanned xNoE (xArg (xFz (xCall sp_law_without xNoE (xArg (xView 0) (xArg (xC (.int 0)) (xArg (xView 2) xANil))))) xANil))))) (xGName 3))
  (xAsg (xD (x2 kAdd (xView 1) (x2 kMul (xView 3) (x2 cIx (xFz (xLst (xCons (xD (xC (.int 1))) (xCons (xD (xNeg (xC (.int 1)))) xNil)))) (x2 kMod (xView 2) (xC (.int 2))))))) (xGName 1))))
  (xRet (xMove 1)))))
def sp_law_spanned (f : Nat) : Sp3 := fun ts Q _ => ∃ p rows n b, ts = [.d (matQ p rows)] ∧ Sq n n rows ∧ n < f ∧ n ≤ 4 ∧ (∀ r ∈ rows, SzL b r) ∧ b ≤ 20000 ∧ Q (.d (.int (detN n rows))) ts
theorem z0_law_spanned {ts : List T} {Q : T → List T → Prop} {E : Addr → List T → Prop} (h : sp_law_spanned 0 ts Q E) : False := by
  obtain ⟨_, _, _, _, _, _, h, _⟩ := h
  omega
theorem v_law_spanned (f) (ts Q E) (h : sp_law_spanned (f + 1) ts Q E) : body_law_spanned (sp_law_spanned f) { nx := fun r => finOk ts r ∧ Q (.d .none) (finF ts r), rt := fun x r => finOk ts r ∧ Q x (finF ts r) } (start3 N_law_spanned ts) := by
  obtain ⟨p, rows, n, b, rfl, hs, hf, h4, hz, hb, q⟩ := h
  have hb2 : 1000 < sizeLine := by decide
  have hl := hs.1
  have lm : (rows.map rowT).length = n := by rw [List.length_map, hl]
  cases p <;> (
    refine ⟨fun hc => ?_, fun hc => ?_⟩
    · have hc : ((rows.map rowT).length : Int) = 0 := of_decide_eq_true hc
      have e : n = 0 := by omega
      subst e
      exact ⟨⟨⟩, q⟩
    · have hc : ¬ ((rows.map rowT).length : Int) = 0 := of_decide_eq_false hc
      match rows, n, hs, hl, lm, q, hc, h4, hf with
      | r :: rest, m + 1, hs, hl, lm, q, hc, h4, hf =>
      obtain ⟨hr, ht⟩ := hs.tail
      refine ⟨by omega, by omega, fun i s => ∃ c s2 s3, s = [some (.d (matQ _ (r :: rest))), some (.d (.int c)), s2, s3] ∧ c = sumR i (fun k => r.getD k 0 * sg k * detN m (minor k rest)) ∧ i ≤ m + 1, ⟨_, _, _, rfl, rfl, by omega⟩, fun i x s hx hW => ?_, fun s hW => ?_⟩
      · obtain ⟨c, s2, s3, rfl, rfl, hi⟩ := hW
        obtain ⟨hi1, rfl⟩ := rangeI_get hx
        have hi2 : i < m + 1 := by omega
        have ei : 0 + (i : Int) = ((i : Nat) : Int) := by omega
        have g1 : getI (r.map PyData.int) (0 + (i : Int)) = some (.int (r.getD i 0)) := getI_at ei (by
          rw [List.getElem?_map, List.getD_eq_getElem?_getD, List.getElem?_eq_getElem (by omega)]; rfl)
        have szu : Sz b (r.getD i 0) := hz r (by simp) i
        have zl : ∀ x ∈ minor i rest, SzL b x := fun x hx => by
          obtain ⟨y, hy, rfl⟩ := List.mem_map.mp hx
          exact (hz y (List.mem_cons_of_mem _ hy)).erase
        have sd := det_Sz (by omega) (ht.minor (k := i) hi2) zl
        have ss : Sz 1 (sg i) := by unfold Sz; rw [sg_abs]; decide
        have hm : m * (b + 2) ≤ 3 * (20000 + 2) := Nat.mul_le_mul (by omega) (by omega)
        obtain ⟨z, hz2, rfl⟩ := sgn_at i
        rw [← ei] at hz2
        refine ⟨_, rfl, _, g1, nd0, _, r :: rest, m + 1, 0, i, _, _, rfl, rfl, ei, hs, h4, by omega, hi2, fun p1 => ⟨nvs_mapT _ _ fun _ _ => rfl, ?_⟩⟩
        rw [show fz (T.own p1 ((minor i ((r :: rest).eraseIdx 0)).map fun r => T.d (rowT r))) = matQ false (minor i rest) from fz_own p1 rowT _]
        refine ⟨nd0, false, minor i rest, m, b, rfl, ht.minor hi2, by omega, by omega, zl, hb, mulOk szu sd (by omega), sz 2, fun p2 => ⟨rfl, pz, _, hz2, mulOk (szu.mul sd) ss (by omega), _, _, _, rfl, ?_, by omega⟩⟩
        show _ = sumR i _ + r.getD i 0 * sg i * _
        show _ + r.getD i 0 * detN m (minor i rest) * sg i = _
        rw [Int.mul_assoc (r.getD i 0), Int.mul_comm (detN m _), ← Int.mul_assoc]
      · obtain ⟨c, s2, s3, rfl, rfl, hi⟩ := hW
        have en : (rangeI 0 (((r :: rest).map rowT).length : Int).toNat).length = m + 1 := by rw [rangeI_len]; omega
        rw [en]
        exact ⟨⟨⟩, q⟩)
end L3
set_option pp.maxSteps 600
namespace L3
open PySem PySem.Spec PyProof.Rows L2 TL
local macro_rules | `(tactic| wtm_at "sh") => `(tactic| conv => whnf)
def L1_law_rows_3 : TS3 := (xFor (xR1 (xView 3)) (xGName 7) (xSeq (xAsg (xD (x2 cIx (xFz (xTup (xCons (xD (xC (.int 1))) (xCons (xD (xNeg (xC (.int 1)))) xNil)))) (x2 kMod (xFz (xCall sp_law_draw_1 xNoE (xArg (xView 0) (xArg (x2 kAdd (x2 kAdd (x2 kAdd (xView 1) (xC (.int 1))) (x2 kMul (xC (.int 4)) (xView 5))) (xView 7)) xANil)))) (xC (.int 2))))) (xGName 8))
  (xDrop (xApp 6 (xD (x2 kMul (xView 8) (xFz (xCall sp_law_number_2 xNoE (xArg (xView 0) (xArg (x2 kAdd (x2 kAdd (x2 kAdd (xView 1) (xC (.int 20))) (x2 kMul (xC (.int 200)) (xView 5))) (x2 kMul (xC (.int 50)) (xView 7))) (xArg (xView 2) xANil)))))))))))
def L2_law_rows_3 : TS3 := (xFor (xR1 (xView 3)) (xGName 5) (xSeq (xAsg (xLst xNil) (xGName 6))
  (xSeq L1_law_rows_3
  (xDrop (xApp 4 (xD (x1 cTup (xView 6))))))))
def N_law_rows_3 : List Str := ["_law_script", "_law_at", "_law_most", "_law_many", "_law_rows_here", "_law_k", "_law_row", "_law_j", "_law_sign"]
def body_law_rows_3 : TS3 := (xSeq (xAsg (xD (x2 kAdd (xC (.int 1)) (x2 kMod (xFz (xCall sp_law_draw_1 xNoE (xArg (xView 0) (xArg (xView 1) xANil)))) (xC (.int 4))))) (xGName 3))
  (xSeq (xAsg (xLst xNil) (xGName 4))
  (xSeq L2_law_rows_3
  (xFzS 4 (xSeq (xIfS (xTest (x2 kNeI (xFz (xCall (sp_law_spanned 8) xNoE (xArg (xView 4) xANil))) (xC (.int 0)))) (xRet (xD (x1 cTup (xView 4)))) xNext)
  (xRet (xD (x1 cTup (xFz (xLc (xR1 (xView 3)) (xGName 5) xYes (xD (x1 cTup (xFz (xLc (xR1 (xView 3)) (xGName 7) xYes (xD (x2 kMul (x1 cInt (x2 kLe (xView 7) (xView 5))) (x2 kAdd (xC (.int 1)) (xView 7)))) [7])))) [5]))))))))))
def lowR (n i : Nat) : List Int := (List.range n).map fun j : Nat => if j ≤ i then 1 + (j : Int) else 0
def lowM (n : Nat) : Mat := (List.range n).map (lowR n)
theorem lowM_len {n : Nat} : (lowM n).length = n := by unfold lowM; rw [List.length_map, List.length_range]
theorem lowR_len {n i : Nat} : (lowR n i).length = n := by unfold lowR; rw [List.length_map, List.length_range]
theorem low_ok {n : Nat} (n0 : 0 < n) (h4 : n ≤ 4) : Sq n n (lowM n) ∧ detN n (lowM n) ≠ 0 ∧ ∀ r ∈ lowM n, SzL 127 r := by
  refine ⟨⟨lowM_len, fun r hr => ?_⟩, ?_, fun r hr => SzL.of fun x hx => ?_⟩
  · unfold lowM at hr
    obtain ⟨i, _, rfl⟩ := List.mem_map.mp hr
    exact lowR_len
  · rcases (show n = 1 ∨ n = 2 ∨ n = 3 ∨ n = 4 by omega) with rfl | rfl | rfl | rfl <;> decide
  · unfold lowM at hr
    obtain ⟨i, _, rfl⟩ := List.mem_map.mp hr
    unfold lowR at hx
    obtain ⟨j, hj, rfl⟩ := List.mem_map.mp hx
    have := List.mem_range.mp hj
    unfold Sz
    have h3 : 5 < 2 ^ 127 := by decide
    split <;> omega
def sp_law_rows_3 : Sp3 := fun ts Q _ => ∃ a ns k m, ts = [.sc a ns, .d (.int k), .d (.int m)] ∧ ns.length ≤ 63 ∧ 0 ≤ k ∧ k ≤ 3000 ∧ 1 ≤ m ∧ m ≤ 38 ∧ ∀ M n, Sq n n M → 0 < n → n ≤ 4 → detN n M ≠ 0 → (∀ r ∈ M, SzL 127 r) → Q (.d (matP M)) ts
theorem v_law_rows_3 (ts Q E) (h : sp_law_rows_3 ts Q E) : body_law_rows_3 { nx := fun r => finOk ts r ∧ Q (.d .none) (finF ts r), rt := fun x r => finOk ts r ∧ Q x (finF ts r) } (start3 N_law_rows_3 ts) := by
  obtain ⟨a, ns, k, m, rfl, hl, k0, k1, m0, m1, q⟩ := h
  have hb2 : 1000 < sizeLine := by decide
  refine ⟨nd0, a, ns, k, rfl, hl, k0, by omega, fun y y0 y1 => ⟨pz, sz 0, fun p4 => ?_⟩⟩
  obtain ⟨n, hn⟩ : ∃ n : Nat, 1 + y % 4 = (n : Nat) := ⟨(1 + y % 4).toNat, by omega⟩
  have n0 : 0 < n := by omega
  have h4 : n ≤ 4 := by omega
  refine ⟨by omega, by omega, fun i r => ∃ rows L N s5 s6 s7 s8, r = [some (.sc a ns), some (.d (.int k)), some (.d (.int m)), some (.d (.int N)), some (.own p4 L), s5, s6, s7, s8] ∧ N = (n : Nat) ∧ L = (rows.map fun r => T.d (rowT r)) ∧ rows.length = i ∧ i ≤ n ∧ (∀ r ∈ rows, r.length = n ∧ SzL 127 r), ⟨[], _, _, _, _, _, _, rfl, hn, rfl, rfl, by omega, fun r hr => by cases hr⟩, fun i x r hx hW => ?_, fun r hW => ?_⟩
  · obtain ⟨rows, L, N, s5, s6, s7, s8, rfl, rfl, rfl, hLi, hi, hr⟩ := hW
    obtain ⟨hi1, rfl⟩ := rangeI_get hx
    have hi2 : i < n := by omega
    refine ⟨sz 0, fun p6 => ?_⟩
    refine ⟨by omega, by omega, fun j r => ∃ (x : List Int) (lx : List T) (s7 s8 : Option T), r = [some (.sc a ns), some (.d (.int k)), some (.d (.int m)), some (.d (.int (n : Nat))), some (.own p4 (rows.map fun r => T.d (rowT r))), some (.d (.int (0 + (i : Nat)))), some (.own p6 lx), s7, s8] ∧ lx = (x.map fun c => T.d (.int c)) ∧ x.length = j ∧ j ≤ n ∧ SzL 127 x, ⟨[], _, _, _, rfl, rfl, rfl, by omega, fun c => by rw [getD_big (by simp)]; exact sz_zero _⟩, fun j y r hy hW2 => ?_, fun r hW2 => ?_⟩
    · obtain ⟨x, lx, s7, s8, rfl, rfl, hxj, hj, hxz⟩ := hW2
      obtain ⟨hj1, rfl⟩ := rangeI_get hy
      have hj2 : j < n := by omega
      refine ⟨sz 2, mulOkL (by decide) (by decide), nd0, a, ns, _, rfl, hl, by omega, by omega, fun z z0 z1 => ⟨pz, ?_⟩⟩
      have b2 := em_b z 2
      obtain ⟨s, hsg, hs2⟩ := pickA (l := [PyData.int 1, .int (-1)]) (P := fun y => y = 1 ∨ y = -1) (i := z % 2) b2.1 b2.2 (fun z hz => by
        rcases List.mem_cons.mp hz with rfl | hz
        · exact ⟨_, rfl, .inl rfl⟩
        · rw [List.mem_singleton.mp hz]; exact ⟨_, rfl, .inr rfl⟩)
      refine ⟨_, hsg, mulOkL (by decide) (by decide), mulOkL (by decide) (by decide), nd0, a, ns, _, m, rfl, hl, by omega, by omega, m0, m1, fun w hw => ⟨mulOkL (by omega) (by omega), by rw [List.length_map]; omega, x ++ [s * (w : Int)], _, _, _, rfl, by rw [List.map_append]; rfl, by rw [List.length_append]; simp; omega, by omega, szl_snoc hxz ?_⟩⟩
      have : (10 : Nat) ^ 38 < 2 ^ 127 := by decide
      unfold Sz
      rw [Int.natAbs_mul, Int.natAbs_natCast]
      rcases hs2 with rfl | rfl
      · show 1 * w < _; omega
      · show 1 * w < _; omega
    · obtain ⟨x, lx, s7, s8, rfl, rfl, hxj, hj, hxz⟩ := hW2
      have en : (rangeI 0 ((n : Nat) : Int).toNat).length = n := by rw [rangeI_len]; omega
      rw [en] at hxj
      refine ⟨alld_map _ _, ?_⟩
      rw [show fzs (x.map fun c => T.d (.int c)) = x.map PyData.int from fzsT PyData.int x]
      refine ⟨by rw [List.length_map]; omega, rows ++ [x], _, _, _, _, _, _, rfl, rfl, by rw [List.map_append]; rfl, by rw [List.length_append]; simp; omega, by omega, fun r hr2 => ?_⟩
      rcases List.mem_append.mp hr2 with h | h
      · exact hr r h
      · rw [List.mem_singleton.mp h]; exact ⟨hxj, hxz⟩
  · obtain ⟨rows, L, N, s5, s6, s7, s8, rfl, hN, rfl, hLi, hi, hr⟩ := hW
    have en : (rangeI 0 (1 + y % 4).toNat).length = n := by rw [rangeI_len]; omega
    rw [en] at hLi
    subst hN
    refine ⟨nvs_mapT _ _ fun _ _ => rfl, ?_⟩
    rw [show fz (T.own p4 (rows.map fun r => T.d (rowT r))) = matLT rows from fz_own p4 rowT rows]
    have sq : Sq n n rows := ⟨hLi, fun r h => (hr r h).1⟩
    refine ⟨nd0, false, rows, n, 127, rfl, sq, by omega, h4, fun r h => (hr r h).2, by decide, fun hc => ?_, fun _ => ?_⟩
    · have hc : (!decide (detN n rows = 0)) = true := hc
      have hd : detN n rows ≠ 0 := by simpa using hc
      exact ⟨⟨⟩, q rows n sq n0 h4 hd fun r h => (hr r h).2⟩
    · have lmr : ((n : Nat) : Int).toNat = n := by omega
      refine ⟨by omega, by omega, ?_⟩
      refine fun p6 => ⟨fun i acc r => ∃ s7, r = [some (.sc a ns), some (.d (.int k)), some (.d (.int m)), some (.d (.int (n : Nat))), some (.d (matLT rows)), none, s6, s7, s8] ∧ acc = (((List.range i).map (lowR n)).map fun r => T.d (rowT r)) ∧ i ≤ n, ⟨_, rfl, rfl, by omega⟩, fun i u acc r hu hW => ?_, fun acc r hW => ?_⟩
      · obtain ⟨s7, rfl, rfl, hi⟩ := hW
        obtain ⟨hi1, rfl⟩ := rangeI_get hu
        have hi2 : i < n := by omega
        refine ⟨fun _ => ⟨by omega, by omega, ?_⟩, nofun⟩
        refine lc_gen ((lowR n i).map PyData.int) (by rw [rangeI_len, List.length_map, lowR_len]; omega) (by rw [rangeI_len]; omega) (fun r0 h0 j u w2 hu hw R' S' ku' => ?_) fun r0 h0 p7 => ?_
        · simp only [wp, puts, List.set_cons_succ, List.set_cons_zero] at h0; subst h0
          obtain ⟨hj1, rfl⟩ := rangeI_get hu
          have hj2 : j < n := by omega
          have hw4 : (((List.range n).map fun j : Nat => if j ≤ i then 1 + (j : Int) else 0).map PyData.int)[j]? = some w2 := hw
          rw [List.getElem?_map, List.getElem?_map, List.getElem?_range hj2] at hw4
          cases hw4
          have ev : (if (decide (0 + (j : Int) ≤ 0 + (i : Int))) = true then (1 : Int) else 0) * (1 + (0 + (j : Int))) = if j ≤ i then 1 + (j : Int) else 0 := by
            by_cases c : j ≤ i
            · rw [if_pos c, if_pos (decide_eq_true (by omega)), Int.one_mul]; omega
            · rw [if_neg c, if_neg (by rw [decide_eq_false (by omega)]; decide), Int.zero_mul]
          refine ⟨fun _ => ⟨mulOkL (by split <;> decide) (by split <;> decide), ?_⟩, nofun⟩
          show R' (.d (.int ((if (decide (0 + (j : Int) ≤ 0 + (i : Int))) = true then (1 : Int) else 0) * (1 + (0 + (j : Int)))))) _
          rw [ev]
          exact ku' _ rfl
        · simp only [wp, puts, List.set_cons_succ, List.set_cons_zero] at h0; subst h0
          refine ⟨nvs_d _, ?_⟩
          rw [fz_outs]
          refine ⟨by rw [List.length_map, List.length_map, List.length_range]; omega, _, rfl, ?_, by omega⟩
          rw [List.range_succ, List.map_append, List.map_append]; rfl
      · obtain ⟨s7, rfl, rfl, hi⟩ := hW
        rw [rangeI_len, lmr]
        refine ⟨nvs_mapT _ _ fun _ _ => rfl, ?_⟩
        rw [show fz (T.own p6 (((List.range n).map (lowR n)).map fun r => T.d (rowT r))) = matLT (lowM n) from fz_own p6 rowT _]
        obtain ⟨g1, g2, g3⟩ := low_ok n0 h4
        exact ⟨⟨⟩, q (lowM n) n g1 n0 h4 g2 g3⟩
end L3
set_option pp.maxSteps 600
namespace L3
open PySem PySem.Spec PyProof.Rows L2 TL
local macro_rules | `(tactic| wtm_at "sh") => `(tactic| conv => whnf)
/-! ## papers of no lattice -/
theorem wk_need_lattice (cN : Str → Addr) : ∀ ts Q, sp_need_lattice ts Q xNoE → sp_need_lattice_x cN ts Q xNoE := fun ts Q h => by
  obtain ⟨rows, b, e, _⟩ := id h
  exact ⟨rows, e, .inr h⟩
def N_size_of_b : List Str := ["row", "number"]
def body_size_of_b : TS3 := (xRet (xD (x1 cMaxL (xFz (xLc (xSeqI (xView 0)) (xGName 1) xYes (xD (x1 cAbs (xView 1))) [1])))))
def sp_size_of_b : Sp3 := sp_size_of
theorem v_size_of_b (ts Q E) (h : sp_size_of_b ts Q E) : body_size_of_b { nx := fun r => finOk ts r ∧ Q (.d .none) (finF ts r), rt := fun x r => finOk ts r ∧ Q x (finF ts r) } (start3 N_size_of_b ts) := v_size_of ts Q E h
def N_shortest_2 : List Str := ["rows", "size", "found", "row"]
def body_shortest_2 : TS3 := (xSeq (xDrop (xCall sp_need_lattice xNoE (xArg (xView 0) xANil)))
  (xSeq (xAsg (xCall sp_led_down xNoE (xArg (xView 0) xANil)) (xGName 0))
  (xFzS 0 (xSeq (xAsg (xD (x1 cMinL (xFz (xLc (xSeqI (xView 0)) (xGName 3) xYes (xCall sp_size_of xNoE (xArg (xView 3) xANil)) [3])))) (xGName 1))
  (xSeq (xAsg (xCall sp_all_within xNoE (xArg (xView 0) (xArg (xFz (x2 cMul (xFz (xLst (xCons (xD (x2 kSub (xC (.int 0)) (xView 1))) xNil))) (x1 cLen (xView 0)))) (xArg (xFz (x2 cMul (xFz (xLst (xCons (xMove 1) xNil))) (x1 cLen (xView 0)))) xANil)))) (xGName 2))
  (xFzS 2 (xRet (xD (x2 cIx (x1 (cMinA (Int × PySem.W.Tup Int)) (xFz (xLc (xSeqI (xView 2)) (xGName 3) (xTest (x2 kGt (xFz (xCall sp_size_of xNoE (xArg (xView 3) xANil))) (xC (.int 0)))) (xTup (xCons (xCall sp_size_of xNoE (xArg (xView 3) xANil)) (xCons (xMove 3) xNil))) [3]))) (xC (.int 1)))))))))))
def sp_shortest_2 : Sp3 := sp_shortest_1
theorem v_shortest_2 (ts Q E) (h : sp_shortest_2 ts Q E) : body_shortest_2 { nx := fun r => finOk ts r ∧ Q (.d .none) (finF ts r), rt := fun x r => finOk ts r ∧ Q x (finF ts r) } (start3 N_shortest_2 ts) := v_shortest_1 ts Q E h
/- these are not reached: the first call refuses -/
def N_minor_of : List Str := ["rows", "skip_row", "skip_place", "kept", "k", "row"]
def body_minor_of : TS3 := (xSeq (xAsg (xLst xNil) (xGName 3))
  (xSeq (xFor (xEnumX (xView 0)) (xGTup 2 (xGCons (xGName 4) (xGCons (xGName 5) xGNil))) (xIfS (xTest (x2 kNe (xView 4) (xView 1))) (xDrop (xApp 3 (x2 cAdd (xFz (xSl (xView 5) xNo (xSome (xView 2)))) (xFz (xSl (xView 5) (xSome (x2 kAdd (xView 2) (xC (.int 1)))) xNo))))) xNext))
  (xRet (xD (x1 cTup (xView 3))))))
def sp_minor_of : Sp3 := fun ts _ _ => ∃ a b c, ts = [a, b, c] ∧ False
theorem v_minor_of (ts Q E) (h : sp_minor_of ts Q E) : body_minor_of { nx := fun r => finOk ts r ∧ Q (.d .none) (finF ts r), rt := fun x r => finOk ts r ∧ Q x (finF ts r) } (start3 N_minor_of ts) := by
  obtain ⟨_, _, _, _, h⟩ := h; exact h.elim
def N_span_of : List Str := ["rows", "total", "k", "number", "part"]
def body_span_of (sp_span_of : Sp3) : TS3 := (xSeq (xIfS (xTest (x2 kEq (xView 0) (xFz (xTup xNil)))) (xRet (xD (xC (.int 1)))) xNext)
  (xSeq (xAsg (xD (xC (.int 0))) (xGName 1))
  (xSeq (xFor (xEnumX (x2 cIx (xView 0) (xC (.int 0)))) (xGTup 2 (xGCons (xGName 2) (xGCons (xGName 3) xGNil))) (xIfS (xTest (x2 kNeI (xView 3) (xC (.int 0)))) (xSeq (xAsg (xD (x2 kMul (xView 3) (xFz (xCall sp_span_of xNoE (xArg (xFz (xCall sp_minor_of xNoE (xArg (xView 0) (xArg (xC (.int 0)) (xArg (xView 2) xANil))))) xANil))))) (xGName 4))
  (xAsg (x2 cAdd (xView 1) (x2 cIx (xFz (xLst (xCons (xMove 4) (xCons (xD (x2 kSub (xC (.int 0)) (xView 4))) xNil)))) (x2 kMod (xView 2) (xC (.int 2))))) (xGName 1))) xNext))
  (xRet (xMove 1)))))
def sp_span_of (_ : Nat) : Sp3 := fun ts _ _ => ∃ a, ts = [a] ∧ False
theorem z0_span_of {ts : List T} {Q : T → List T → Prop} {E : Addr → List T → Prop} (h : sp_span_of 0 ts Q E) : False := by
  obtain ⟨_, _, h⟩ := h; exact h
theorem v_span_of (f) (ts Q E) (h : sp_span_of (f + 1) ts Q E) : body_span_of (sp_span_of f) { nx := fun r => finOk ts r ∧ Q (.d .none) (finF ts r), rt := fun x r => finOk ts r ∧ Q x (finF ts r) } (start3 N_span_of ts) := by
  obtain ⟨_, _, h⟩ := h; exact h.elim
def N_added : List Str := ["one", "row", "times", "j"]
def body_added : TS3 := (xRet (xD (x1 cTup (xFz (xLc (xR1 (x1 cLen (xView 1))) (xGName 3) xYes (xD (x2 kAdd (x2 cIx (xView 0) (xView 3)) (x2 kMul (xView 2) (x2 cIx (xView 1) (xView 3))))) [3])))))
def sp_added : Sp3 := fun ts _ _ => ∃ a b c, ts = [a, b, c] ∧ False
theorem v_added (ts Q E) (h : sp_added ts Q E) : body_added { nx := fun r => finOk ts r ∧ Q (.d .none) (finF ts r), rt := fun x r => finOk ts r ∧ Q x (finF ts r) } (start3 N_added ts) := by
  obtain ⟨_, _, _, _, h⟩ := h; exact h.elim
def N_sums_within : List Str := ["rows", "bounds", "found", "k", "row", "first", "many", "times", "one"]
def body_sums_within : TS3 := (xSeq (xAsg (xLst (xCons (x2 cMulT (xFz (xTup (xCons (xD (xC (.int 0))) xNil))) (x1 cLen (xView 0))) xNil)) (xGName 2))
  (xSeq (xFor (xEnumX (xView 0)) (xGTup 2 (xGCons (xGName 3) (xGCons (xGName 4) xGNil))) (xSeq (xAsg (x1 cLst (xView 2)) (xGName 5))
  (xFor (xR2 (xC (.int 1)) (x2 kAdd (x2 cIx (xView 1) (xView 3)) (xC (.int 1)))) (xGName 6) (xFor (xSeqI (xFz (xTup (xCons (xMove 6) (xCons (xD (x2 kSub (xC (.int 0)) (xView 6))) xNil))))) (xGName 7) (xAsg (x2 cAdd (xView 2) (xFz (xLc (xSeqI (xView 5)) (xGName 8) xYes (xCall sp_added xNoE (xArg (xView 8) (xArg (xView 4) (xArg (xView 7) xANil)))) [8]))) (xGName 2))))))
  (xRet (xMove 2))))
def sp_sums_within : Sp3 := fun ts _ _ => ∃ a b, ts = [a, b] ∧ False
theorem v_sums_within (ts Q E) (h : sp_sums_within ts Q E) : body_sums_within { nx := fun r => finOk ts r ∧ Q (.d .none) (finF ts r), rt := fun x r => finOk ts r ∧ Q x (finF ts r) } (start3 N_sums_within ts) := by
  obtain ⟨_, _, _, h⟩ := h; exact h.elim
def N_how_many_sums : List Str := ["bounds", "many", "bound"]
def body_how_many_sums : TS3 := (xSeq (xAsg (xD (xC (.int 1))) (xGName 1))
  (xSeq (xFor (xSeqI (xView 0)) (xGName 2) (xAsg (xD (x2 kMul (xView 1) (x2 kAdd (x2 kMul (xC (.int 2)) (xView 2)) (xC (.int 1))))) (xGName 1)))
  (xRet (xMove 1))))
def sp_how_many_sums : Sp3 := fun ts _ _ => ∃ a, ts = [a] ∧ False
theorem v_how_many_sums (ts Q E) (h : sp_how_many_sums ts Q E) : body_how_many_sums { nx := fun r => finOk ts r ∧ Q (.d .none) (finF ts r), rt := fun x r => finOk ts r ∧ Q x (finF ts r) } (start3 N_how_many_sums ts) := by
  obtain ⟨_, _, h⟩ := h; exact h.elim
def N_least_bounds_x : List Str := ["rows", "size", "whole", "found", "k", "total", "j"]
def body_least_bounds_x (cN : Str → Addr) : TS3 := (xSeq (xAsgX (xCallX (sp_measure_x cN) (xArg (xView 0) xANil)) (xGName 2))
  (xNox (xSeq (xAsg (xLst xNil) (xGName 3))
  (xSeq (xFor (xR1 (x1 cLen (xView 0))) (xGName 4) (xSeq (xAsg (xD (x1 cSum (xFz (xLc (xR1 (x1 cLen (xView 0))) (xGName 6) xYes (xD (x1 cAbs (xFz (xCall (sp_span_of 8) xNoE (xArg (xFz (xCall sp_minor_of xNoE (xArg (xView 0) (xArg (xView 4) (xArg (xView 6) xANil))))) xANil))))) [6])))) (xGName 5))
  (xDrop (xApp 3 (xD (x2 kDiv (x2 kMul (xView 1) (xView 5)) (xView 2)))))))
  (xRet (xD (x1 cTup (xView 3))))))))
def sp_least_bounds_x (cN : Str → Addr) : Sp3 := fun ts _ E => ∃ rows y, ts = [.d (matP rows), .d y] ∧ BadR rows ∧ E (cN "NoLattice") ts
theorem v_least_bounds_x (cN : Str → Addr) (ts Q E) (h : sp_least_bounds_x cN ts Q E) : body_least_bounds_x cN { nx := fun r => finOk ts r ∧ Q (.d .none) (finF ts r), rt := fun x r => finOk ts r ∧ Q x (finF ts r), ex := fun C r => finOk ts r ∧ E C (finF ts r) } (start3 N_least_bounds_x ts) := by
  obtain ⟨rows, y, rfl, hb, e⟩ := h
  exact ⟨nd0, rows, rfl, .inl ⟨hb, ⟨⟩, e⟩⟩
def N_least_paper_x : List Str := ["rows", "size"]
def body_least_paper_x (cN : Str → Addr) : TS3 := (xSeq (xDropX (xCallX (sp_measure_x cN) (xArg (xView 0) xANil)))
  (xSeq (xIfS (xTest (x2 kLt (xFz (xCall sp_size_of_b xNoE (xArg (xFz (xCall sp_shortest_2 xNoE (xArg (xView 0) xANil))) xANil))) (xView 1))) (xNox (xRet (xD (xC .none)))) xNext)
  (xRetX (xCallX (sp_least_bounds_x cN) (xArg (xView 0) (xArg (xView 1) xANil))))))
def sp_least_paper_x (cN : Str → Addr) : Sp3 := fun ts _ E => ∃ rows y, ts = [.d (matP rows), .d y] ∧ BadR rows ∧ E (cN "NoLattice") ts
theorem v_least_paper_x (cN : Str → Addr) (ts Q E) (h : sp_least_paper_x cN ts Q E) : body_least_paper_x cN { nx := fun r => finOk ts r ∧ Q (.d .none) (finF ts r), rt := fun x r => finOk ts r ∧ Q x (finF ts r), ex := fun C r => finOk ts r ∧ E C (finF ts r) } (start3 N_least_paper_x ts) := by
  obtain ⟨rows, y, rfl, hb, e⟩ := h
  exact ⟨nd0, rows, rfl, .inl ⟨hb, ⟨⟩, e⟩⟩
def N_least_shown_2_x : List Str := ["rows", "size", "bounds", "least", "found", "row", "k"]
def body_least_shown_2_x (cN : Str → Addr) : TS3 := (xSeq (xAsgX (xCallX (sp_least_bounds_x cN) (xArg (xView 0) (xArg (xView 1) xANil))) (xGName 3))
  (xNox (xSeq (xIfS (xTest (x2 kNeI (x1 cLen (xView 2)) (x1 cLen (xView 0)))) (xRet (xD (xC (.bool false)))) xNext)
  (xSeq (xIfS (xOr (xTest (x2 kNe (xFz (xLc (xR1 (x1 cLen (xView 0))) (xGName 6) (xTest (x2 kLt (x2 cIx (xView 2) (xView 6)) (x2 cIx (xView 3) (xView 6)))) (xMove 6) [6])) (xFz (xLst xNil)))) (xTest (x2 kGt (xFz (xCall sp_how_many_sums xNoE (xArg (xView 2) xANil))) (xC (.int 20000))))) (xRet (xD (xC (.bool false)))) xNext)
  (xSeq (xAsg (xCall sp_sums_within xNoE (xArg (xView 0) (xArg (xView 2) xANil))) (xGName 4))
  (xRet (xD (x2 kEq (xFz (xLc (xSeqI (xFz (xSl (xView 4) (xSome (xC (.int 1))) xNo))) (xGName 5) (xTest (x2 kLt (xFz (xCall sp_size_of_b xNoE (xArg (xView 5) xANil))) (xView 1))) (xMove 5) [5])) (xFz (xLst xNil))))))))))
def sp_least_shown_2_x (cN : Str → Addr) : Sp3 := fun ts _ E => ∃ rows y z, ts = [.d (matP rows), .d y, .d z] ∧ BadR rows ∧ E (cN "NoLattice") ts
theorem v_least_shown_2_x (cN : Str → Addr) (ts Q E) (h : sp_least_shown_2_x cN ts Q E) : body_least_shown_2_x cN { nx := fun r => finOk ts r ∧ Q (.d .none) (finF ts r), rt := fun x r => finOk ts r ∧ Q x (finF ts r), ex := fun C r => finOk ts r ∧ E C (finF ts r) } (start3 N_least_shown_2_x ts) := by
  obtain ⟨rows, y, z, rfl, hb, e⟩ := h
  exact ⟨nd0, rows, y, rfl, hb, ⟨⟩, e⟩
def L1_law_refused_2 (cN : Str → Addr) : TS3 := (xFor (xR1 (xC (.int 2))) (xGName 3) (xSeq (xAsg (xD (xC .none)) (xGName 4))
  (xSeq (xTry (Under cN) 5 (xIfS (xTest (x2 kEqI (xView 3) (xC (.int 0)))) (xDropX (xCallX (sp_least_paper_x cN) (xArg (xView 0) (xArg (xView 1) xANil)))) (xDropX (xCallX (sp_least_shown_2_x cN) (xArg (xView 0) (xArg (xView 1) (xArg (xView 2) xANil)))))) (xAsg (xMove 5) (xGName 4)))
  (xSeq (xIfS (xOr (xTest (xIsEs errN cN errSub ["NoAsk", "NoAsking", "NoNumber", "NoText"] (xView 4))) (xNot (xTest (xIsE errN cN errSub "ValueError" (xView 4))))) (xRet (xD (xC (.bool false)))) xNext)
  (xIfS (xNot (xTest (xIsE errN cN errSub "NoLattice" (xView 4)))) (xRet (xD (xC (.bool false)))) xNext)))))
def N_law_refused_2 : List Str := ["_law_rows_here", "_law_size_here", "_law_bounds_here", "_law_way", "_law_caught", "e"]
def body_law_refused_2 (cN : Str → Addr) : TS3 := (xSeq (L1_law_refused_2 cN)
  (xRet (xD (xC (.bool true)))))
def sp_law_refused_2 : Sp3 := fun ts Q _ => ∃ bad y z, ts = [.d (matP bad), .d y, .d z] ∧ BadR bad ∧ Q (.d (.bool true)) ts
theorem v_law_refused_2 (cN : Str → Addr) (ts Q E) (h : sp_law_refused_2 ts Q E) : body_law_refused_2 cN { nx := fun r => finOk ts r ∧ Q (.d .none) (finF ts r), rt := fun x r => finOk ts r ∧ Q x (finF ts r) } (start3 N_law_refused_2 ts) := by
  obtain ⟨bad, y, z, rfl, hb, q⟩ := h
  have e : Under cN (cN "NoLattice") := ⟨"NoLattice", by decide, rfl⟩
  refine ⟨by decide, by decide, fun i r => ∃ s3 s4, r = [some (.d (matP bad)), some (.d y), some (.d z), s3, s4, none], ⟨_, _, rfl⟩, fun i x r hx hW => ?_, fun r hW => ?_⟩
  · obtain ⟨s3, s4, rfl⟩ := hW
    obtain ⟨hi, rfl⟩ := rangeI_get hx
    refine ⟨fun _ => ⟨nd0, bad, y, rfl, hb, e, ?_⟩, fun _ => ⟨nd0, bad, y, z, rfl, hb, e, ?_⟩⟩
    · exact ⟨"NoLattice", by decide, rfl, nofun, fun _ => ⟨"NoLattice", by decide, rfl, nofun, fun _ => ⟨"NoLattice", by decide, rfl, nofun, fun _ => ⟨_, _, rfl⟩⟩⟩⟩
    · exact ⟨"NoLattice", by decide, rfl, nofun, fun _ => ⟨"NoLattice", by decide, rfl, nofun, fun _ => ⟨"NoLattice", by decide, rfl, nofun, fun _ => ⟨_, _, rfl⟩⟩⟩⟩
  · obtain ⟨s3, s4, rfl⟩ := hW
    exact ⟨⟨⟩, q⟩
end L3
set_option pp.maxSteps 600
namespace L3
open PySem PySem.Spec PyProof.Rows L2 TL
local macro_rules | `(tactic| wtm_at "sh") => `(tactic| conv => whnf)
def L1_law_27 : TS3 := (xForO 10 (xGName 14) (xIfS (xNot (xTest (xFz (xCall sp_law_refused_2 xNoE (xArg (x1 cTup (xView 14)) (xArg (xView 5) (xArg (xView 6) xANil))))))) (xRet (xD (xC (.bool false)))) xNext))
def R2_law_27 : TS3 := (xSeq L1_law_27
  (xIfS (xTest (x2 kNe (xView 4) (xView 3))) (xSeq (xAsg (xD (x2 kSub (x2 kMod (xFz (xCall sp_law_draw_1 xNoE (xArg (xView 0) (xArg (x2 kAdd (xC (.int 2820)) (xView 1)) xANil)))) (xC (.int 7))) (xC (.int 3)))) (xGName 15))
  (xSeq (xAsg (xD (x1 cTup (xFz (xLc (xSeqI (x2 cIx (xView 2) (xView 4))) (xGName 19) xYes (xD (x2 kMul (xView 15) (xView 19))) [19])))) (xGName 16))
  (xIfS (xNot (xTest (xFz (xCall sp_law_refused_2 xNoE (xArg (x1 cTup (xFz (x2 cAdd (xFz (x2 cAdd (xFz (xSl (xView 2) xNo (xSome (xView 3)))) (xFz (xLst (xCons (xMove 16) xNil))))) (xFz (xSl (xView 2) (xSome (x2 kAdd (xView 3) (xC (.int 1)))) xNo))))) (xArg (xView 5) (xArg (xView 6) xANil))))))) (xRet (xD (xC (.bool false)))) xNext))) xNext))
def R3_law_27 : TS3 := (xSeq (xIfS (xTest (x2 kGt (x1 cLen (xView 2)) (xC (.int 1)))) (xDrop (xD (xFz (xApp 10 (xD (xFz (x2 cAdd (xFz (xSl (xView 2) xNo (xSome (xView 3)))) (xFz (xSl (xView 2) (xSome (x2 kAdd (xView 3) (xC (.int 1)))) xNo))))))))) xNext)
  R2_law_27)
def R4_law_27 : TS3 := (xSeq (xIfS (xTest (x2 kLt (x1 cLen (xView 2)) (xC (.int 4)))) (xDrop (xD (xFz (xApp 10 (xD (xFz (x2 cAdd (xView 2) (xFz (xLst (xCons (xD (x2 cIx (xView 2) (xView 3))) xNil)))))))))) xNext)
  R3_law_27)
def L5_law_27 : TS3 := (xFor (xR1 (xC (.int 3))) (xGName 1) (xSeq (xAsg (x1 cLst (xFz (xCall sp_law_rows_3 xNoE (xArg (xView 0) (xArg (x2 kAdd (xC (.int 10)) (x2 kMul (xC (.int 900)) (xView 1))) (xArg (x2 cIx (xFz (xTup (xCons (xD (xC (.int 1))) (xCons (xD (xC (.int 2))) (xCons (xD (xC (.int 12))) xNil))))) (x2 kMod (xFz (xCall sp_law_draw_1 xNoE (xArg (xView 0) (xArg (x2 kAdd (xC (.int 3)) (xView 1)) xANil)))) (xC (.int 3)))) xANil)))))) (xGName 2))
  (xFzS 2 (xSeq (xAsg (xD (x2 kMod (xFz (xCall sp_law_draw_1 xNoE (xArg (xView 0) (xArg (x2 kAdd (xC (.int 6)) (xView 1)) xANil)))) (x1 cLen (xView 2)))) (xGName 3))
  (xSeq (xAsg (xD (x2 kMod (xFz (xCall sp_law_draw_1 xNoE (xArg (xView 0) (xArg (x2 kAdd (xC (.int 2800)) (xView 1)) xANil)))) (x1 cLen (xView 2)))) (xGName 4))
  (xSeq (xAsg (xD (x2 kMod (xFz (xCall sp_law_draw_1 xNoE (xArg (xView 0) (xArg (x2 kAdd (xC (.int 2810)) (xView 1)) xANil)))) (xC (.int 30)))) (xGName 5))
  (xSeq (xAsg (x2 cMulT (xFz (xTup (xCons (xD (xC (.int 1))) xNil))) (x1 cLen (xView 2))) (xGName 6))
  (xSeq (xAsg (x2 cAdd (xFz (x2 cAdd (xFz (xSl (xView 2) xNo (xSome (xView 3)))) (xFz (xLst (xCons (xD (xFz (x2 cMulT (xFz (xTup (xCons (xD (xC (.int 0))) xNil))) (x1 cLen (xView 2))))) xNil))))) (xFz (xSl (xView 2) (xSome (x2 kAdd (xView 3) (xC (.int 1)))) xNo))) (xGName 7))
  (xFzS 7 (xSeq (xAsg (x2 cAdd (xFz (x2 cAdd (xFz (xSl (xView 2) xNo (xSome (xView 3)))) (xFz (xLst (xCons (xD (xFz (x2 cAdd (x2 cIx (xView 2) (xView 3)) (xFz (xTup (xCons (xD (xC (.int 1))) xNil)))))) xNil))))) (xFz (xSl (xView 2) (xSome (x2 kAdd (xView 3) (xC (.int 1)))) xNo))) (xGName 8))
  (xFzS 8 (xSeq (xAsg (x2 cAdd (xFz (x2 cAdd (xFz (xSl (xView 2) xNo (xSome (xView 3)))) (xFz (xLst (xCons (xD (xFz (xSl (x2 cIx (xView 2) (xView 3)) (xSome (xC (.int 1))) xNo))) xNil))))) (xFz (xSl (xView 2) (xSome (x2 kAdd (xView 3) (xC (.int 1)))) xNo))) (xGName 9))
  (xFzS 9 (xSeq (xAsg (xLst (xCons (xMove 7) (xCons (xMove 8) (xCons (xMove 9) (xCons (xD (xFz (xLst xNil))) xNil))))) (xGName 10))
  (xSeq (xIfS (xTest (x2 kGt (x1 cLen (xView 2)) (xC (.int 2)))) (xSeq (xAsg (xD (xFz (xSl (xFz (xLc (xR1 (x1 cLen (xView 2))) (xGName 17) (xTest (x2 kNe (xView 17) (xView 3))) (xD (x2 cIx (xView 2) (xView 17))) [17])) xNo (xSome (xC (.int 2)))))) (xGTupL 2 (xGCons (xGName 11) (xGCons (xGName 12) xGNil))))
  (xSeq (xAsg (xD (x1 cTup (xFz (xLc (xR1 (x1 cLen (xView 2))) (xGName 18) xYes (xD (x2 kAdd (x2 cIx (xView 11) (xView 18)) (x2 kMul (xC (.int 2)) (x2 cIx (xView 12) (xView 18))))) [18])))) (xGName 13))
  (xDrop (xD (xFz (xApp 10 (xD (xFz (x2 cAdd (xFz (x2 cAdd (xFz (xSl (xView 2) xNo (xSome (xView 3)))) (xFz (xLst (xCons (xMove 13) xNil))))) (xFz (xSl (xView 2) (xSome (x2 kAdd (xView 3) (xC (.int 1)))) xNo))))))))))) xNext)
  R4_law_27)))))))))))))))
def N_law_27 : List Str := ["_law_script", "_law_turn", "_law_rows_here", "_law_place", "_law_other", "_law_size_here", "_law_bounds_here", "_law_nought", "_law_longer", "_law_shorter", "_law_some", "_law_one", "_law_more", "_law_joined", "_law_wrong", "_law_times", "_law_alike", "_law_k", "_law_j", "_law_number_here"]
def body_law_27 : TS3 := (xSeq L5_law_27
  (xRet (xD (xC (.bool true)))))
abbrev r20 (s0 s1 s2 s3 s4 s5 s6 s7 s8 s9 s10 s11 s12 s13 s14 s15 s16 s17 s18 s19 : Option T) : Rho := [s0, s1, s2, s3, s4, s5, s6, s7, s8, s9, s10, s11, s12, s13, s14, s15, s16, s17, s18, s19]
def putE (E : TE3) : TE3 := x2 cAdd (xFz (x2 cAdd (xFz (xSl (xView 2) xNo (xSome (xView 3)))) (xFz (xLst (xCons E xNil))))) (xFz (xSl (xView 2) (xSome (x2 kAdd (xView 3) (xC (.int 1)))) xNo))
theorem put_row {E : TE3} {Q : T → Rho → Prop} {s0 s1 s4 s5 s6 s7 s8 s9 s10 s11 s12 s13 s14 s15 s16 s17 s18 s19 : Option T} {M : Mat} {k0 n : Nat} {y : List Int} (hl : M.length = n) (h4 : n ≤ 4) (hk : k0 < n)
    (hE : ∀ Q' : T → Rho → Prop, Q' (.d (rowT y)) (r20 s0 s1 (some (.d (matLT M))) (some (.d (.int (k0 : Nat)))) s4 s5 s6 s7 s8 s9 s10 s11 s12 s13 s14 s15 s16 s17 s18 s19) → E (r20 s0 s1 (some (.d (matLT M))) (some (.d (.int (k0 : Nat)))) s4 s5 s6 s7 s8 s9 s10 s11 s12 s13 s14 s15 s16 s17 s18 s19) Q')
    (k : ∀ p, Q (.own p (((M.set k0 y).map rowT).map T.d)) (r20 s0 s1 (some (.d (matLT M))) (some (.d (.int (k0 : Nat)))) s4 s5 s6 s7 s8 s9 s10 s11 s12 s13 s14 s15 s16 s17 s18 s19)) :
    putE E (r20 s0 s1 (some (.d (matLT M))) (some (.d (.int (k0 : Nat)))) s4 s5 s6 s7 s8 s9 s10 s11 s12 s13 s14 s15 s16 s17 s18 s19) Q := by
  have hb2 : 1000 < sizeLine := by decide
  have lcut : ∀ (l : List PyData) lo hi, (cutL l lo hi).length ≤ l.length := fun l lo hi => by
    unfold cutL
    rw [List.length_take, List.length_drop]; omega
  have b1 := lcut (M.map rowT) none (some ((k0 : Nat) : Int))
  have b2 := lcut (M.map rowT) (some (((k0 : Nat) : Int) + 1)) none
  rw [List.length_map] at b1 b2
  refine fun p1 => ⟨nvs_d _, ?_⟩
  rw [fz_outs]
  refine hE _ ⟨sz 1, fun p2 => ⟨rfl, ?_⟩⟩
  refine ⟨by show _ + 1 ≤ _; omega, fun p3 => ?_⟩
  rw [show List.map T.d (fzs [T.d (rowT y)]) = [rowT y].map T.d from rfl, ← List.map_append]
  refine ⟨nvs_d _, ?_⟩
  rw [fz_outs]
  refine fun p4 => ⟨nvs_d _, ?_⟩
  rw [fz_outs]
  refine ⟨by rw [List.length_append]; show _ + 1 + _ ≤ _; omega, fun p5 => ?_⟩
  rw [← List.map_append]
  have e : cutL (M.map rowT) none (some ((k0 : Nat) : Int)) ++ [rowT y] ++ cutL (M.map rowT) (some (((k0 : Nat) : Int) + 1)) none = (M.set k0 y).map rowT := by
    rw [cut_take (by rw [List.length_map]; omega), show ((k0 : Nat) : Int) + 1 = ((k0 + 1 : Nat) : Int) by omega, cut_drop (by rw [List.length_map]; omega), ← List.map_take, ← List.map_drop, List.set_eq_take_append_cons_drop, if_pos (by omega), List.map_append, List.map_cons, List.append_assoc]; rfl
  rw [e]
  exact k p5
theorem bad_det {n : Nat} {M : Mat} (h4 : n ≤ 4) (hs : Sq n n M) (hd : detN n M = 0) (hz : ∀ r ∈ M, SzL 140 r) : BadR M := (BadOk.of (by rw [hs.1]; omega) (fun r hr => by rw [hs.2 r hr]; omega) hz (fun _ => by rw [hs.1]; exact h4) (latB_det hs hd)).bad
theorem v_27_L1 {D : Ends3} {s0 s1 s2 s3 s4 s7 s8 s9 s11 s12 s13 s14 s15 s16 s17 s18 s19 : Option T} {y z : PyData} {p10 : Addr} {lb : List T} {B : List Mat} (e : lb = B.map fun M => T.d (matLT M)) (hB : ∀ M ∈ B, BadR M) (k : ∀ s14, D.nx (r20 s0 s1 s2 s3 s4 (some (.d y)) (some (.d z)) s7 s8 s9 (some (.own p10 lb)) s11 s12 s13 s14 s15 s16 s17 s18 s19)) :
    L1_law_27 D (r20 s0 s1 s2 s3 s4 (some (.d y)) (some (.d z)) s7 s8 s9 (some (.own p10 lb)) s11 s12 s13 s14 s15 s16 s17 s18 s19) := by
  subst e
  refine ⟨alld_map _ _, fun c r => ∃ s14, r = r20 s0 s1 s2 s3 s4 (some (.d y)) (some (.d z)) s7 s8 s9 (some (.own p10 (B.map fun M => T.d (matLT M)))) s11 s12 s13 s14 s15 s16 s17 s18 s19, ⟨_, rfl⟩, fun c r h => ?_, fun c x r hx hW => ?_, fun r hW => ?_⟩
  · obtain ⟨_, rfl⟩ := h; rfl
  · obtain ⟨s14, rfl⟩ := hW
    rw [fzsT] at hx
    obtain ⟨M, hM, rfl⟩ := get_fun hx
    exact ⟨nd0, M, y, z, rfl, hB M (List.mem_of_getElem? hM), nofun, fun _ => ⟨_, rfl⟩⟩
  · obtain ⟨s14, rfl⟩ := hW
    exact k _
theorem v_27_R2 {D : Ends3} {a : Addr} {ns : List Int} {i : Nat} {s7 s8 s9 s11 s12 s13 s14 s15 s16 s17 : Option T} {y z : PyData} {p10 : Addr} {lb : List T} {B : List Mat} {M : Mat} {n k0 k1 : Nat} (hl : ns.length ≤ 63) (hi : i < 3) (hs : Sq n n M) (h4 : n ≤ 4) (hz : ∀ r ∈ M, SzL 127 r) (hk0 : k0 < n) (hk1 : k1 < n) (e : lb = B.map fun M => T.d (matLT M)) (hB : ∀ M ∈ B, BadR M)
    (k : ∀ s14 s15 s16, D.nx (r20 (some (.sc a ns)) (some (.d (.int (0 + (i : Nat))))) (some (.d (matLT M))) (some (.d (.int (k0 : Nat)))) (some (.d (.int (k1 : Nat)))) (some (.d y)) (some (.d z)) s7 s8 s9 (some (.own p10 lb)) s11 s12 s13 s14 s15 s16 s17 none none)) :
    R2_law_27 D (r20 (some (.sc a ns)) (some (.d (.int (0 + (i : Nat))))) (some (.d (matLT M))) (some (.d (.int (k0 : Nat)))) (some (.d (.int (k1 : Nat)))) (some (.d y)) (some (.d z)) s7 s8 s9 (some (.own p10 lb)) s11 s12 s13 s14 s15 s16 s17 none none) := by
  have hb2 : 1000 < sizeLine := by decide
  have hM := hs.1
  refine v_27_L1 e hB fun s14 => ?_
  refine ⟨rfl, rfl, fun hc => ?_, fun _ => k _ _ _⟩
  have hne : k1 ≠ k0 := fun e => by
    subst e
    have hc : (!decide (((k1 : Nat) : Int) = (k1 : Nat))) = true := hc
    rw [decide_eq_true rfl] at hc
    cases hc
  refine ⟨nd0, a, ns, _, rfl, hl, by omega, by omega, fun u u0 u1 => ⟨pz, ?_⟩⟩
  have b7 := em_b u 7
  obtain ⟨V, hV⟩ : ∃ V, M[k1]? = some V := ⟨_, List.getElem?_eq_getElem (by omega)⟩
  have mV := List.mem_of_getElem? hV
  have lV := hs.2 V mV
  refine ⟨_, getI_at (k := k1) rfl (by rw [List.getElem?_map, hV]; rfl), ?_⟩
  refine lc_gen ((V.map ((u % 7 - 3) * ·)).map PyData.int) (by simp) (by rw [List.length_map]; omega) (fun r0 h0 c w2 w3 hu hw R S ku => ?_) fun r0 h0 pp => ?_
  · simp only [wp, puts, List.set_cons_succ, List.set_cons_zero] at h0; subst h0
    obtain ⟨b, hb, rfl⟩ := get_fun hu
    rw [List.map_map] at hw
    obtain rfl := get_map2 hw hb
    exact ⟨fun _ => ⟨mulOkL (by omega) (by omega), ku _ rfl⟩, nofun⟩
  simp only [wp, puts, List.set_cons_succ, List.set_cons_zero] at h0; subst h0
  refine ⟨nvs_d _, ?_⟩
  rw [fz_outs]
  refine put_row (E := xMove 16) (y := V.map ((u % 7 - 3) * ·)) hM h4 hk0 (fun Q' h => h) fun pq => ⟨nvs_d _, ?_⟩
  rw [fz_outs]
  have lW : (V.map ((u % 7 - 3) * ·)).length = n := by rw [List.length_map, lV]
  refine ⟨nd0, M.set k0 (V.map ((u % 7 - 3) * ·)), y, z, rfl, bad_det h4 (hs.set lW) ?_ (set_sz (fun r hr => (hz r hr).mono (by decide)) ?_), nofun, fun _ => k _ _ _⟩
  · rw [det_scale _ hs hk0 lV, det_alt' h4 (hs.set lV) hne (x := V) (by rw [List.getElem?_set_ne (Ne.symm hne)]; exact hV) (List.getElem?_set_self (by omega)), Int.mul_zero]
  · have zt : Sz 3 (u % 7 - 3) := by unfold Sz; omega
    refine SzL.of fun x hx => ?_
    obtain ⟨b, hb, rfl⟩ := List.mem_map.mp hx
    exact (zt.mul ((hz V mV).mem hb)).mono (by decide)
theorem v_27_R4 {D : Ends3} {a : Addr} {ns : List Int} {i : Nat} {s7 s8 s9 s11 s12 s13 s14 s15 s16 s17 : Option T} {y z : PyData} {p10 : Addr} {lb : List T} {B : List Mat} {M : Mat} {n k0 k1 : Nat} (hl : ns.length ≤ 63) (hi : i < 3) (hs : Sq n n M) (h4 : n ≤ 4) (hz : ∀ r ∈ M, SzL 127 r) (hk0 : k0 < n) (hk1 : k1 < n) (e : lb = B.map fun M => T.d (matLT M)) (hB : ∀ M ∈ B, BadR M) (lB : B.length ≤ 100)
    (k : ∀ lb s14 s15 s16, D.nx (r20 (some (.sc a ns)) (some (.d (.int (0 + (i : Nat))))) (some (.d (matLT M))) (some (.d (.int (k0 : Nat)))) (some (.d (.int (k1 : Nat)))) (some (.d y)) (some (.d z)) s7 s8 s9 (some (.own p10 lb)) s11 s12 s13 s14 s15 s16 s17 none none)) :
    R4_law_27 D (r20 (some (.sc a ns)) (some (.d (.int (0 + (i : Nat))))) (some (.d (matLT M))) (some (.d (.int (k0 : Nat)))) (some (.d (.int (k1 : Nat)))) (some (.d y)) (some (.d z)) s7 s8 s9 (some (.own p10 lb)) s11 s12 s13 s14 s15 s16 s17 none none) := by
  have hb2 : 1000 < sizeLine := by decide
  have hM := hs.1
  obtain ⟨U, hU⟩ : ∃ U, M[k0]? = some U := ⟨_, List.getElem?_eq_getElem (by omega)⟩
  have mU := List.mem_of_getElem? hU
  have lU := hs.2 U mU
  have z140 : ∀ r ∈ M, SzL 140 r := fun r hr => (hz r hr).mono (by decide)
  have r5 : ∀ r ∈ M, r.length ≤ 5 := fun r hr => by rw [hs.2 r hr]; omega
  have lcut : ∀ (l : List PyData) lo hi, (cutL l lo hi).length ≤ l.length := fun l lo hi => by
    unfold cutL
    rw [List.length_take, List.length_drop]; omega
  have b1 := lcut (M.map rowT) none (some ((k0 : Nat) : Int))
  have b2 := lcut (M.map rowT) (some (((k0 : Nat) : Int) + 1)) none
  rw [List.length_map] at b1 b2
  have lm : (M.map rowT).length = n := by rw [List.length_map, hM]
  have badA : BadR (M ++ [U]) := by
    have mm : ∀ r ∈ M ++ [U], r ∈ M := fun r hr => by
      rcases List.mem_append.mp hr with h | h
      · exact h
      · rw [List.mem_singleton.mp h]; exact mU
    exact (BadOk.odd (by rw [List.length_append, hM]; show n + 1 ≤ 5; omega) (fun r hr => r5 r (mm r hr)) (fun r hr => z140 r (mm r hr)) (r := U) (by simp) (by rw [List.length_append, hM, lU]; show n ≠ n + 1; omega)).bad
  have third : ∀ (lb : List T) (B : List Mat), lb = (B.map fun M => T.d (matLT M)) → (∀ M ∈ B, BadR M) → B.length ≤ 110 → R3_law_27 D (r20 (some (.sc a ns)) (some (.d (.int (0 + (i : Nat))))) (some (.d (matLT M))) (some (.d (.int (k0 : Nat)))) (some (.d (.int (k1 : Nat)))) (some (.d y)) (some (.d z)) s7 s8 s9 (some (.own p10 lb)) s11 s12 s13 s14 s15 s16 s17 none none) := fun lb B e hB lB => by
    subst e
    refine ⟨fun hc => ?_, fun _ => v_27_R2 hl hi hs h4 hz hk0 hk1 rfl hB fun _ _ _ => k _ _ _ _⟩
    have hn : 1 < n := by
      have hc : (1 : Int) < ((M.map rowT).length : Int) := of_decide_eq_true hc
      omega
    refine fun p1 => ⟨nvs_d _, ?_⟩
    rw [fz_outs]
    refine fun p2 => ⟨nvs_d _, ?_⟩
    rw [fz_outs]
    refine ⟨by omega, fun p3 => ?_⟩
    rw [← List.map_append]
    refine ⟨nvs_d _, ?_⟩
    rw [fz_outs, others_of (rows := M) (k := k0) rfl (by omega)]
    refine ⟨by rw [List.length_map]; omega, ?_⟩
    refine v_27_R2 (B := B ++ [M.eraseIdx k0]) hl hi hs h4 hz hk0 hk1 (by rw [List.map_append]; rfl) (fun N hN => ?_) fun _ _ _ => k _ _ _ _
    rcases List.mem_append.mp hN with h | h
    · exact hB N h
    · rw [List.mem_singleton.mp h]
      have le : (M.eraseIdx k0).length = n - 1 := by rw [List.length_eraseIdx, if_pos (by omega), hM]
      obtain ⟨V, hV⟩ : ∃ V, (M.eraseIdx k0)[0]? = some V := ⟨_, List.getElem?_eq_getElem (by omega)⟩
      have mV := List.mem_of_getElem? hV
      have mV2 := List.mem_of_mem_eraseIdx mV
      exact (BadOk.odd (by omega) (fun r hr => r5 r (List.mem_of_mem_eraseIdx hr)) (fun r hr => z140 r (List.mem_of_mem_eraseIdx hr)) mV (by rw [hs.2 V mV2, le]; omega)).bad
  subst e
  refine ⟨fun hc => ?_, fun _ => third _ _ rfl hB (by omega)⟩
  refine ⟨_, getI_at (k := k0) rfl (by rw [List.getElem?_map, hU]; rfl), sz 1, fun p1 => ⟨rfl, ?_⟩⟩
  refine ⟨by show _ + 1 ≤ _; omega, fun p2 => ?_⟩
  rw [show List.map T.d (fzs [T.d (rowT U)]) = [rowT U].map T.d from rfl, ← List.map_append]
  refine ⟨nvs_d _, ?_⟩
  rw [fz_outs, show M.map rowT ++ [rowT U] = (M ++ [U]).map rowT by rw [List.map_append]; rfl]
  refine ⟨by rw [List.length_map]; omega, third _ (B ++ [M ++ [U]]) (by rw [List.map_append (f := fun M => T.d (matLT M))]; rfl) (fun N hN => ?_) (by rw [List.length_append]; show _ + 1 ≤ _; omega)⟩
  rcases List.mem_append.mp hN with h | h
  · exact hB N h
  · rw [List.mem_singleton.mp h]; exact badA
end L3
set_option pp.maxSteps 600
namespace L3
open PySem PySem.Spec PyProof.Rows L2 TL
local macro_rules | `(tactic| wtm_at "sh") => `(tactic| conv => whnf)
theorem bads_27 {n k0 : Nat} {M : Mat} {U : List Int} (hs : Sq n n M) (h4 : n ≤ 4) (hz : ∀ r ∈ M, SzL 127 r) (hk0 : k0 < n) (hU : M[k0]? = some U) : ∀ N ∈ [M.set k0 (List.replicate n 0), M.set k0 (U ++ [1]), M.set k0 (U.drop 1), []], BadR N := by
  have hM := hs.1
  have mU := List.mem_of_getElem? hU
  have lU := hs.2 U mU
  have z140 : ∀ r ∈ M, SzL 140 r := fun r hr => (hz r hr).mono (by decide)
  have odd : ∀ y : List Int, y.length ≤ 5 → SzL 140 y → y.length ≠ n → BadR (M.set k0 y) := fun y hy zy hne => (BadOk.odd (by rw [List.length_set]; omega) (fun r hr => by
    rcases List.mem_or_eq_of_mem_set hr with h | rfl
    · rw [hs.2 r h]; omega
    · exact hy) (set_sz z140 zy) (r := y) (List.mem_of_getElem? (List.getElem?_set_self (by omega))) (by rw [List.length_set, hM]; exact hne)).bad
  intro N hN
  simp only [List.mem_cons, List.not_mem_nil, or_false] at hN
  rcases hN with rfl | rfl | rfl | rfl
  · exact bad_det h4 (hs.set List.length_replicate) (det_zero_row hs hk0) (set_sz z140 fun c => by
      by_cases h : c < n
      · rw [rep_getD h]; exact sz_zero _
      · rw [getD_big (by rw [List.length_replicate]; omega)]; exact sz_zero _)
  · exact odd _ (by rw [List.length_append, lU]; show n + 1 ≤ 5; omega) (szl_snoc (z140 U mU) (by unfold Sz; decide)) (by rw [List.length_append, lU]; show n + 1 ≠ n; omega)
  · exact odd _ (by rw [List.length_drop, lU]; omega) (SzL.of fun x hx => (z140 U mU).mem (List.mem_of_mem_drop hx)) (by rw [List.length_drop, lU]; omega)
  · exact (BadOk.of (by decide) (fun r hr => by cases hr) (fun r hr => by cases hr) (fun _ => by decide) latB_nil).bad
def rest27 : TS3 := (xSeq (xAsg (x2 cAdd (xFz (x2 cAdd (xFz (xSl (xView 2) xNo (xSome (xView 3)))) (xFz (xLst (xCons (xD (xFz (x2 cMulT (xFz (xTup (xCons (xD (xC (.int 0))) xNil))) (x1 cLen (xView 2))))) xNil))))) (xFz (xSl (xView 2) (xSome (x2 kAdd (xView 3) (xC (.int 1)))) xNo))) (xGName 7))
  (xFzS 7 (xSeq (xAsg (x2 cAdd (xFz (x2 cAdd (xFz (xSl (xView 2) xNo (xSome (xView 3)))) (xFz (xLst (xCons (xD (xFz (x2 cAdd (x2 cIx (xView 2) (xView 3)) (xFz (xTup (xCons (xD (xC (.int 1))) xNil)))))) xNil))))) (xFz (xSl (xView 2) (xSome (x2 kAdd (xView 3) (xC (.int 1)))) xNo))) (xGName 8))
  (xFzS 8 (xSeq (xAsg (x2 cAdd (xFz (x2 cAdd (xFz (xSl (xView 2) xNo (xSome (xView 3)))) (xFz (xLst (xCons (xD (xFz (xSl (x2 cIx (xView 2) (xView 3)) (xSome (xC (.int 1))) xNo))) xNil))))) (xFz (xSl (xView 2) (xSome (x2 kAdd (xView 3) (xC (.int 1)))) xNo))) (xGName 9))
  (xFzS 9 (xSeq (xAsg (xLst (xCons (xMove 7) (xCons (xMove 8) (xCons (xMove 9) (xCons (xD (xFz (xLst xNil))) xNil))))) (xGName 10))
  (xSeq (xIfS (xTest (x2 kGt (x1 cLen (xView 2)) (xC (.int 2)))) (xSeq (xAsg (xD (xFz (xSl (xFz (xLc (xR1 (x1 cLen (xView 2))) (xGName 17) (xTest (x2 kNe (xView 17) (xView 3))) (xD (x2 cIx (xView 2) (xView 17))) [17])) xNo (xSome (xC (.int 2)))))) (xGTupL 2 (xGCons (xGName 11) (xGCons (xGName 12) xGNil))))
  (xSeq (xAsg (xD (x1 cTup (xFz (xLc (xR1 (x1 cLen (xView 2))) (xGName 18) xYes (xD (x2 kAdd (x2 cIx (xView 11) (xView 18)) (x2 kMul (xC (.int 2)) (x2 cIx (xView 12) (xView 18))))) [18])))) (xGName 13))
  (xDrop (xD (xFz (xApp 10 (xD (xFz (x2 cAdd (xFz (x2 cAdd (xFz (xSl (xView 2) xNo (xSome (xView 3)))) (xFz (xLst (xCons (xMove 13) xNil))))) (xFz (xSl (xView 2) (xSome (x2 kAdd (xView 3) (xC (.int 1)))) xNo))))))))))) xNext)
  R4_law_27))))))))
theorem v_27_rest {D : Ends3} {a : Addr} {ns : List Int} {i : Nat} {s7 s8 s9 s10 s11 s12 s13 s14 s15 s16 s17 : Option T} {y z : PyData} {x3 x4 : Int} {M : Mat} {n k0 k1 : Nat} (e3 : x3 = (k0 : Nat)) (e4 : x4 = (k1 : Nat)) (hl : ns.length ≤ 63) (hi : i < 3) (hs : Sq n n M) (h4 : n ≤ 4) (hz : ∀ r ∈ M, SzL 127 r) (hk0 : k0 < n) (hk1 : k1 < n)
    (k : ∀ s7 s8 s9 s10 s11 s12 s13 s14 s15 s16 s17, D.nx (r20 (some (.sc a ns)) (some (.d (.int (0 + (i : Nat))))) (some (.d (matLT M))) (some (.d (.int (k0 : Nat)))) (some (.d (.int (k1 : Nat)))) (some (.d y)) (some (.d z)) s7 s8 s9 s10 s11 s12 s13 s14 s15 s16 s17 none none)) :
    rest27 D (r20 (some (.sc a ns)) (some (.d (.int (0 + (i : Nat))))) (some (.d (matLT M))) (some (.d (.int x3))) (some (.d (.int x4))) (some (.d y)) (some (.d z)) s7 s8 s9 s10 s11 s12 s13 s14 s15 s16 s17 none none) := by
  subst e3; subst e4
  have hb2 : 1000 < sizeLine := by decide
  have hM := hs.1
  have lm : ((M.map rowT).length : Int) = (n : Nat) := by rw [List.length_map, hM]
  obtain ⟨U, hU⟩ : ∃ U, M[k0]? = some U := ⟨_, List.getElem?_eq_getElem (by omega)⟩
  have mU := List.mem_of_getElem? hU
  have lU := hs.2 U mU
  have gU : getI (M.map rowT) ((k0 : Nat) : Int) = some (rowT U) := getI_at (k := k0) rfl (by rw [List.getElem?_map, hU]; rfl)
  have em : PyData.tuple (List.replicate ((M.map rowT).length : Int).toNat [PyData.int 0]).flatten = rowT (List.replicate n 0) := congrArg PyData.tuple (by rw [show ((M.map rowT).length : Int).toNat = n by omega]; exact rep_ints n)
  have hbad := bads_27 hs h4 hz hk0 hU
  refine put_row (y := List.replicate n 0) hM h4 hk0 (fun Q' h => ⟨sz 1, (fun h => by cases h), by omega, by omega, (by show 1 ≤ 1000; decide), ?_⟩) fun p7 => ⟨nvs_d _, ?_⟩
  · rw [← em] at h
    exact h
  rw [fz_outs]
  refine put_row (y := U ++ [1]) hM h4 hk0 (fun Q' h => ⟨rowT U, gU, sz 1, (by rw [List.length_map]; show _ + 1 ≤ _; omega), ?_⟩) fun p8 => ⟨nvs_d _, ?_⟩
  · rw [show rowT (U ++ [1]) = .tuple (U.map PyData.int ++ [.int 1]) by show PyData.tuple _ = _; rw [List.map_append]; rfl] at h
    exact h
  rw [fz_outs]
  refine put_row (y := U.drop 1) hM h4 hk0 (fun Q' h => ⟨rowT U, gU, ?_⟩) fun p9 => ⟨nvs_d _, ?_⟩
  · rw [show rowT (U.drop 1) = .tuple (cutL (U.map PyData.int) (some 1) none) by rw [cut_one (by rw [List.length_map]; omega), ← List.map_drop]] at h
    exact h
  rw [fz_outs]
  refine ⟨sz 0, fun p10 => ⟨rfl, sz 4, fun p11 => ?_⟩⟩
  refine ⟨fun hc => ?_, fun _ => v_27_R4 (B := [M.set k0 (List.replicate n 0), M.set k0 (U ++ [1]), M.set k0 (U.drop 1), []]) hl hi hs h4 hz hk0 hk1 rfl hbad (by show 4 ≤ 100; decide) fun lb s14 s15 s16 => k _ _ _ _ _ _ _ _ _ _ _⟩
  have hn : 2 < n := by
    have hc : (2 : Int) < ((M.map rowT).length : Int) := of_decide_eq_true hc
    omega
  have en : rangeI 0 ((M.map rowT).length : Int).toNat = (List.range n).map fun c => PyData.int (0 + (c : Nat)) := by
    unfold rangeI; rw [show ((M.map rowT).length : Int).toNat = n by omega]
  have le : (M.eraseIdx k0).length = n - 1 := by rw [List.length_eraseIdx, if_pos (by omega), hM]
  obtain ⟨A, hA⟩ : ∃ A, (M.eraseIdx k0)[0]? = some A := ⟨_, List.getElem?_eq_getElem (by omega)⟩
  obtain ⟨B, hB⟩ : ∃ B, (M.eraseIdx k0)[1]? = some B := ⟨_, List.getElem?_eq_getElem (by omega)⟩
  obtain ⟨ja, ja0, hA2⟩ := erase_at hA
  obtain ⟨jb, jb0, hB2⟩ := erase_at hB
  have mA := List.mem_of_getElem? hA2
  have mB := List.mem_of_getElem? hB2
  have lA := hs.2 A mA
  have lB := hs.2 B mB
  have e2 : cutL ((M.eraseIdx k0).map rowT) none (some 2) = [rowT A, rowT B] := by
    rw [show (2 : Int) = ((2 : Nat) : Int) from rfl, cut_take (by rw [List.length_map]; omega), ← List.map_take]
    have : (M.eraseIdx k0).take 2 = [A, B] := by
      rw [List.take_add_one, List.take_add_one, List.take_zero, hA, hB]; rfl
    rw [this]; rfl
  refine ⟨by omega, by omega, ?_⟩
  refine lf_cut (fun c => rowT (M.getD c [])) (fun c => decide (c ≠ k0)) (List.range n) en (by rw [List.length_range]; omega) (fun r0 h0 c hc R S ku kn => ?_) fun r0 h0 p12 => ?_
  · simp only [wp, puts, List.set_cons_succ, List.set_cons_zero] at h0; subst h0
    have hcn := List.mem_range.mp hc
    have e : (!PyData.eqv (.int (0 + (c : Int))) (.int ((k0 : Nat) : Int))) = decide (c ≠ k0) := by
      rw [show PyData.eqv (.int (0 + (c : Int))) (.int ((k0 : Nat) : Int)) = decide (0 + (c : Int) = ((k0 : Nat) : Int)) from rfl, ← decide_not]
      exact decide_eq_decide.mpr (by omega)
    have gm : getI (M.map rowT) (0 + (c : Int)) = some (rowT (M.getD c [])) := getI_at (k := c) (by omega) (by rw [List.getElem?_map, List.getD_eq_getElem?_getD, List.getElem?_eq_getElem (by omega)]; rfl)
    exact ⟨rfl, rfl, fun h => ⟨_, gm, ku (e.symm.trans h) _ rfl⟩, fun h => kn (e.symm.trans h) _ rfl⟩
  simp only [wp, puts, List.set_cons_succ, List.set_cons_zero] at h0; subst h0
  rw [show ((List.range n).filter fun c => decide (c ≠ k0)).map (fun u => T.d (rowT (M.getD u []))) = (M.eraseIdx k0).map fun r => T.d (rowT r) by rw [← range_cut hM, List.map_map]; rfl]
  refine ⟨nvs_mapT _ _ fun _ _ => rfl, ?_⟩
  rw [show fz (T.own p12 ((M.eraseIdx k0).map fun r => T.d (rowT r))) = .list ((M.eraseIdx k0).map rowT) from fz_own p12 rowT _]
  refine fun p13 => ⟨nvs_d _, ?_⟩
  rw [fz_outs, e2]
  refine ⟨rfl, by omega, by omega, ?_⟩
  refine lc_gen ((vAdd A 2 B).map PyData.int) (by rw [rangeI_len, List.length_map, vAdd_len lA lB]; omega) (by rw [rangeI_len]; omega) (fun r0 h0 j u w2 hu hw R S ku => ?_) fun r0 h0 p14 => ?_
  · simp only [wp, puts, List.set_cons_succ, List.set_cons_zero] at h0; subst h0
    obtain ⟨hj1, rfl⟩ := rangeI_get hu
    have hj2 : j < n := by omega
    have gA : getI (A.map PyData.int) (0 + (j : Int)) = some (.int (A.getD j 0)) := getI_at (k := j) (by omega) (by rw [List.getElem?_map, List.getD_eq_getElem?_getD, List.getElem?_eq_getElem (by omega)]; rfl)
    have gB : getI (B.map PyData.int) (0 + (j : Int)) = some (.int (B.getD j 0)) := getI_at (k := j) (by omega) (by rw [List.getElem?_map, List.getD_eq_getElem?_getD, List.getElem?_eq_getElem (by omega)]; rfl)
    have ej : (vAdd A 2 B)[j]? = some (A.getD j 0 + 2 * B.getD j 0) := by
      have := vAdd_getD (x := A) (y := B) (m := 2) (c := j) (by omega)
      rw [List.getD_eq_getElem?_getD, List.getElem?_eq_getElem (by rw [vAdd_len lA lB]; exact hj2)] at this
      rw [List.getElem?_eq_getElem (by rw [vAdd_len lA lB]; exact hj2)]
      exact congrArg some this
    rw [List.getElem?_map, ej] at hw
    cases hw
    exact ⟨fun _ => ⟨_, gA, _, gB, mulOkL (by decide) (by decide), ku _ rfl⟩, nofun⟩
  simp only [wp, puts, List.set_cons_succ, List.set_cons_zero] at h0; subst h0
  refine ⟨nvs_d _, ?_⟩
  rw [fz_outs]
  refine put_row (E := xMove 13) (y := vAdd A 2 B) hM h4 hk0 (fun Q' h => h) fun p15 => ⟨nvs_d _, ?_⟩
  rw [fz_outs]
  have badJ : BadR (M.set k0 (vAdd A 2 B)) := by
    refine bad_det h4 (hs.set (vAdd_len lA lB)) ?_ (set_sz (fun r hr => (hz r hr).mono (by decide)) fun c => ?_)
    · rw [det_lin n M k0 A B 2 hs hk0 lA lB, det_alt' h4 (hs.set lA) ja0 (x := A) (by rw [List.getElem?_set_ne (Ne.symm ja0)]; exact hA2) (List.getElem?_set_self (by omega)), det_alt' h4 (hs.set lB) jb0 (x := B) (by rw [List.getElem?_set_ne (Ne.symm jb0)]; exact hB2) (List.getElem?_set_self (by omega))]
      rfl
    · rw [vAdd_getD (by omega)]
      have h1 := hz A mA c
      have h2 := hz B mB c
      unfold Sz at h1 h2 ⊢
      have h3 : (2 : Nat) ^ 140 = 8192 * 2 ^ 127 := by decide
      generalize (2 : Nat) ^ 140 = X at *
      generalize (2 : Nat) ^ 127 = Y at *
      omega
  refine ⟨(by show 4 < sizeLine; omega), v_27_R4 (B := [M.set k0 (List.replicate n 0), M.set k0 (U ++ [1]), M.set k0 (U.drop 1), [], M.set k0 (vAdd A 2 B)]) hl hi hs h4 hz hk0 hk1 rfl (fun N hN => ?_) (by show 5 ≤ 100; decide) fun lb s14 s15 s16 => k _ _ _ _ _ _ _ _ _ _ _⟩
  simp only [List.mem_cons, List.not_mem_nil, or_false] at hN
  rcases hN with h | h | h | h | h
  · exact hbad N (by simp [h])
  · exact hbad N (by simp [h])
  · exact hbad N (by simp [h])
  · exact hbad N (by simp [h])
  · rw [h]; exact badJ
theorem v_law_27 (ts Q E) (h : spLaw ts Q E) : body_law_27 { nx := fun r => finOk ts r ∧ Q (.d .none) (finF ts r), rt := fun x r => finOk ts r ∧ Q x (finF ts r) } (start3 N_law_27 ts) := by
  obtain ⟨a, ns, rfl, hl, q⟩ := h
  have hb2 : 1000 < sizeLine := by decide
  refine ⟨by decide, by decide, fun i r => ∃ s1 s2 s3 s4 s5 s6 s7 s8 s9 s10 s11 s12 s13 s14 s15 s16 s17, r = r20 (some (.sc a ns)) s1 s2 s3 s4 s5 s6 s7 s8 s9 s10 s11 s12 s13 s14 s15 s16 s17 none none, ⟨_, _, _, _, _, _, _, _, _, _, _, _, _, _, _, _, _, rfl⟩, fun i x r hx hW => ?_, fun r hW => ?_⟩
  · obtain ⟨s1, s2, s3, s4, s5, s6, s7, s8, s9, s10, s11, s12, s13, s14, s15, s16, s17, rfl⟩ := hW
    obtain ⟨hi, rfl⟩ := rangeI_get hx
    have hi : i < 3 := hi
    refine ⟨mulOkL (by decide) (by decide), sz 3, nd0, a, ns, _, rfl, hl, by omega, by omega, fun u u0 u1 => ⟨pz, ?_⟩⟩
    have b3 := em_b u 3
    obtain ⟨m, hm, m0, m1⟩ := pickA (l := [PyData.int 1, .int 2, .int 12]) (P := fun y => 1 ≤ y ∧ y ≤ 38) (i := u % 3) b3.1 b3.2 (fun z hz => by
      simp only [List.mem_cons, List.not_mem_nil, or_false] at hz
      rcases hz with rfl | rfl | rfl <;> exact ⟨_, rfl, by decide, by decide⟩)
    refine ⟨_, hm, nd0, a, ns, _, m, rfl, hl, by omega, by omega, m0, m1, fun M n hs n0 h4 hd hz p2 => ⟨nvs_d _, ?_⟩⟩
    rw [fz_outs]
    have hM := hs.1
    have lm : ((M.map rowT).length : Int) = (n : Nat) := by rw [List.length_map, hM]
    refine ⟨nd0, a, ns, _, rfl, hl, by omega, by omega, fun w w0 w1 => ⟨by omega, nd0, a, ns, _, rfl, hl, by omega, by omega, fun o o0 o1 => ⟨by omega, nd0, a, ns, _, rfl, hl, by omega, by omega, fun z z0 z1 => ⟨pz, sz 1, (fun h => by cases h), by omega, by omega, (by show 1 ≤ 1000; decide), ?_⟩⟩⟩⟩
    have ew := em_b w ((M.map rowT).length : Int) (by omega)
    have eo := em_b o ((M.map rowT).length : Int) (by omega)
    obtain ⟨k0, e3⟩ : ∃ k0 : Nat, w % ((M.map rowT).length : Int) = (k0 : Nat) := ⟨(w % ((M.map rowT).length : Int)).toNat, by omega⟩
    obtain ⟨k1, e4⟩ : ∃ k1 : Nat, o % ((M.map rowT).length : Int) = (k1 : Nat) := ⟨(o % ((M.map rowT).length : Int)).toNat, by omega⟩
    exact v_27_rest e3 e4 hl hi hs h4 hz (by omega) (by omega) fun s7 s8 s9 s10 s11 s12 s13 s14 s15 s16 s17 => ⟨_, _, _, _, _, _, _, _, _, _, _, _, _, _, _, _, _, rfl⟩
  · obtain ⟨s1, s2, s3, s4, s5, s6, s7, s8, s9, s10, s11, s12, s13, s14, s15, s16, s17, rfl⟩ := hW
    exact ⟨⟨⟩, q _⟩
end L3
namespace K_k27
open PySem PySem.Spec PyProof.Rows L2 L3
def topS (i : Nat) : Stmt := PySem.Challenge.pw_underone_k27_papers_of_no_lattice.main.body.getD i (.Pass ⟨0, 0, 0, 0⟩)
abbrev s_law_draw_1 : Stmt := topS 45
theorem sc_law_draw_1 : FnScope N_law_draw_1 ["_law_script", "_law_k"] (defScope s_law_draw_1) := ⟨rfl, rfl, rfl, by decide +kernel, rfl, by decide +kernel, by decide +kernel⟩
abbrev s_taken_off : Stmt := topS 9
theorem sc_taken_off : FnScope N_taken_off ["row", "many", "other"] (defScope s_taken_off) := ⟨rfl, rfl, rfl, by decide +kernel, rfl, by decide +kernel, by decide +kernel⟩
abbrev s_stepped : Stmt := topS 11
theorem sc_stepped : FnScope N_stepped ["rows"] (defScope s_stepped) := ⟨rfl, rfl, rfl, by decide +kernel, rfl, by decide +kernel, by decide +kernel⟩
abbrev s_measure_of : Stmt := topS 12
theorem sc_measure_of : FnScope N_measure_of ["rows"] (defScope s_measure_of) := ⟨rfl, rfl, rfl, by decide +kernel, rfl, by decide +kernel, by decide +kernel⟩
abbrev s_is_square : Stmt := topS 10
theorem sc_is_square : FnScope N_is_square ["rows"] (defScope s_is_square) := ⟨rfl, rfl, rfl, by decide +kernel, rfl, by decide +kernel, by decide +kernel⟩
abbrev s_is_lattice : Stmt := topS 13
theorem sc_is_lattice : FnScope N_is_lattice ["rows"] (defScope s_is_lattice) := ⟨rfl, rfl, rfl, by decide +kernel, rfl, by decide +kernel, by decide +kernel⟩
abbrev s_need_lattice_x : Stmt := topS 14
theorem sc_need_lattice_x : FnScope N_need_lattice_x ["rows"] (defScope s_need_lattice_x) := ⟨rfl, rfl, rfl, by decide +kernel, rfl, by decide +kernel, by decide +kernel⟩
abbrev s_measure_x : Stmt := topS 15
theorem sc_measure_x : FnScope N_measure_x ["rows"] (defScope s_measure_x) := ⟨rfl, rfl, rfl, by decide +kernel, rfl, by decide +kernel, by decide +kernel⟩
abbrev s_minor_of : Stmt := topS 34
theorem sc_minor_of : FnScope N_minor_of ["rows", "skip_row", "skip_place"] (defScope s_minor_of) := ⟨rfl, rfl, rfl, by decide +kernel, rfl, by decide +kernel, by decide +kernel⟩
abbrev s_span_of : Stmt := topS 35
theorem sc_span_of : FnScope N_span_of ["rows"] (defScope s_span_of) := ⟨rfl, rfl, rfl, by decide +kernel, rfl, by decide +kernel, by decide +kernel⟩
abbrev s_least_bounds_x : Stmt := topS 36
theorem sc_least_bounds_x : FnScope N_least_bounds_x ["rows", "size"] (defScope s_least_bounds_x) := ⟨rfl, rfl, rfl, by decide +kernel, rfl, by decide +kernel, by decide +kernel⟩
abbrev s_determinant : Stmt := topS 21
theorem sc_determinant : FnScope N_determinant ["rows"] (defScope s_determinant) := ⟨rfl, rfl, rfl, by decide +kernel, rfl, by decide +kernel, by decide +kernel⟩
abbrev s_multiples : Stmt := topS 23
theorem sc_multiples : FnScope N_multiples ["own", "whole", "lows", "highs"] (defScope s_multiples) := ⟨rfl, rfl, rfl, by decide +kernel, rfl, by decide +kernel, by decide +kernel⟩
abbrev s_put_to : Stmt := topS 26
theorem sc_put_to : FnScope N_put_to ["sums", "row", "least", "most"] (defScope s_put_to) := ⟨rfl, rfl, rfl, by decide +kernel, rfl, by decide +kernel, by decide +kernel⟩
abbrev s_stretch_in : Stmt := topS 24
theorem sc_stretch_in : FnScope N_stretch_in ["start", "row", "lows", "highs"] (defScope s_stretch_in) := ⟨rfl, rfl, rfl, by decide +kernel, rfl, by decide +kernel, by decide +kernel⟩
abbrev s_turned_back : Stmt := topS 22
theorem sc_turned_back : FnScope N_turned_back ["rows"] (defScope s_turned_back) := ⟨rfl, rfl, rfl, by decide +kernel, rfl, by decide +kernel, by decide +kernel⟩
abbrev s_stretches : Stmt := topS 25
theorem sc_stretches : FnScope N_stretches ["rows", "lows", "highs"] (defScope s_stretches) := ⟨rfl, rfl, rfl, by decide +kernel, rfl, by decide +kernel, by decide +kernel⟩
abbrev s_all_within : Stmt := topS 27
theorem sc_all_within : FnScope N_all_within ["rows", "lows", "highs"] (defScope s_all_within) := ⟨rfl, rfl, rfl, by decide +kernel, rfl, by decide +kernel, by decide +kernel⟩
abbrev s_cut_by : Stmt := topS 18
theorem sc_cut_by : FnScope N_cut_by ["rows", "shares", "spans", "at", "place"] (defScope s_cut_by) := ⟨rfl, rfl, rfl, by decide +kernel, rfl, by decide +kernel, by decide +kernel⟩
abbrev s_exchanged : Stmt := topS 19
theorem sc_exchanged : FnScope N_exchanged ["rows", "shares", "spans", "at"] (defScope s_exchanged) := ⟨rfl, rfl, rfl, by decide +kernel, rfl, by decide +kernel, by decide +kernel⟩
abbrev s_product_of : Stmt := topS 8
theorem sc_product_of : FnScope N_product_of ["one", "other"] (defScope s_product_of) := ⟨rfl, rfl, rfl, by decide +kernel, rfl, by decide +kernel, by decide +kernel⟩
abbrev s_shares_of : Stmt := topS 16
theorem sc_shares_of : FnScope N_shares_of ["rows"] (defScope s_shares_of) := ⟨rfl, rfl, rfl, by decide +kernel, rfl, by decide +kernel, by decide +kernel⟩
abbrev s_led_down : Stmt := topS 20
theorem sc_led_down : FnScope N_led_down ["rows"] (defScope s_led_down) := ⟨rfl, rfl, rfl, by decide +kernel, rfl, by decide +kernel, by decide +kernel⟩
abbrev s_size_of : Stmt := topS 29
theorem sc_size_of : FnScope N_size_of ["row"] (defScope s_size_of) := ⟨rfl, rfl, rfl, by decide +kernel, rfl, by decide +kernel, by decide +kernel⟩
abbrev s_shortest_2 : Stmt := topS 31
theorem sc_shortest_2 : FnScope N_shortest_2 ["rows"] (defScope s_shortest_2) := ⟨rfl, rfl, rfl, by decide +kernel, rfl, by decide +kernel, by decide +kernel⟩
abbrev s_size_of_b : Stmt := topS 37
theorem sc_size_of_b : FnScope N_size_of_b ["row"] (defScope s_size_of_b) := ⟨rfl, rfl, rfl, by decide +kernel, rfl, by decide +kernel, by decide +kernel⟩
abbrev s_least_paper_x : Stmt := topS 42
theorem sc_least_paper_x : FnScope N_least_paper_x ["rows", "size"] (defScope s_least_paper_x) := ⟨rfl, rfl, rfl, by decide +kernel, rfl, by decide +kernel, by decide +kernel⟩
abbrev s_how_many_sums : Stmt := topS 41
theorem sc_how_many_sums : FnScope N_how_many_sums ["bounds"] (defScope s_how_many_sums) := ⟨rfl, rfl, rfl, by decide +kernel, rfl, by decide +kernel, by decide +kernel⟩
abbrev s_added : Stmt := topS 40
theorem sc_added : FnScope N_added ["one", "row", "times"] (defScope s_added) := ⟨rfl, rfl, rfl, by decide +kernel, rfl, by decide +kernel, by decide +kernel⟩
abbrev s_sums_within : Stmt := topS 39
theorem sc_sums_within : FnScope N_sums_within ["rows", "bounds"] (defScope s_sums_within) := ⟨rfl, rfl, rfl, by decide +kernel, rfl, by decide +kernel, by decide +kernel⟩
abbrev s_least_shown_2_x : Stmt := topS 43
theorem sc_least_shown_2_x : FnScope N_least_shown_2_x ["rows", "size", "bounds"] (defScope s_least_shown_2_x) := ⟨rfl, rfl, rfl, by decide +kernel, rfl, by decide +kernel, by decide +kernel⟩
abbrev s_law_refused_2 : Stmt := topS 54
theorem sc_law_refused_2 : FnScope N_law_refused_2 ["_law_rows_here", "_law_size_here", "_law_bounds_here"] (defScope s_law_refused_2) := ⟨rfl, rfl, rfl, by decide +kernel, rfl, by decide +kernel, by decide +kernel⟩
abbrev s_law_number_2 : Stmt := topS 46
theorem sc_law_number_2 : FnScope N_law_number_2 ["_law_script", "_law_at", "_law_most"] (defScope s_law_number_2) := ⟨rfl, rfl, rfl, by decide +kernel, rfl, by decide +kernel, by decide +kernel⟩
abbrev s_law_without : Stmt := topS 47
theorem sc_law_without : FnScope N_law_without ["_law_rows_here", "_law_skip_row", "_law_skip_place"] (defScope s_law_without) := ⟨rfl, rfl, rfl, by decide +kernel, rfl, by decide +kernel, by decide +kernel⟩
abbrev s_law_spanned : Stmt := topS 48
theorem sc_law_spanned : FnScope N_law_spanned ["_law_rows_here"] (defScope s_law_spanned) := ⟨rfl, rfl, rfl, by decide +kernel, rfl, by decide +kernel, by decide +kernel⟩
abbrev s_law_rows_3 : Stmt := topS 53
theorem sc_law_rows_3 : FnScope N_law_rows_3 ["_law_script", "_law_at", "_law_most"] (defScope s_law_rows_3) := ⟨rfl, rfl, rfl, by decide +kernel, rfl, by decide +kernel, by decide +kernel⟩
abbrev s_law_27 : Stmt := topS 55
theorem sc_law_27 : FnScope N_law_27 ["_law_script"] (defScope s_law_27) := ⟨rfl, rfl, rfl, by decide +kernel, rfl, by decide +kernel, by decide +kernel⟩
section
variable {P : Program} {w : World} {K : PySem.W.Frag} {mg : Str → Option Value} {base : Heap}
theorem ok_law_draw_1 {f : Addr} {fd : FuncData} {k : Nat} (F : Fun K "_law_draw" "_law_draw" s_law_draw_1 f fd) (B_len : mg "len" = none) (B_list : mg "list" = none) (B_max : mg "max" = none) (B_min : mg "min" = none) (B_range : mg "range" = none) : FnOk P w K mg base CX0 (k + 1) f fd ["_law_script", "_law_k"] (lift K sp_law_draw_1) :=
  ok3 F sc_law_draw_1 (fun ts Q E h => by first | (obtain ⟨rfl, _⟩ := h; rfl) | (obtain ⟨_, rfl, _⟩ := h; rfl) | (obtain ⟨_, _, rfl, _⟩ := h; rfl) | (obtain ⟨_, _, _, rfl, _⟩ := h; rfl) | (obtain ⟨_, _, _, _, rfl, _⟩ := h; rfl) | (obtain ⟨_, _, _, _, _, rfl, _⟩ := h; rfl) | (obtain ⟨_, _, _, _, _, _, rfl, _⟩ := h; rfl) | (obtain ⟨_, _, _, _, _, _, _, rfl, _⟩ := h; rfl) | (obtain ⟨_, _, _, _, _, _, _, _, rfl, _⟩ := h; rfl) | (obtain ⟨_, _, _, _, _, _, _, _, _, rfl, _⟩ := h; rfl) | (obtain ⟨_, _, _, _, _, _, _, _, _, _, rfl, _⟩ := h; rfl) | (obtain ⟨_, _, _, _, _, _, _, _, _, _, _, rfl, _⟩ := h; rfl) | (obtain ⟨_, _, _, _, _, _, _, _, _, _, _, _, rfl, _⟩ := h; rfl) | (obtain ⟨_, _, _, _, _, _, _, _, _, _, _, _, _, rfl, _⟩ := h; rfl) | (obtain ⟨_, _, _, _, _, _, _, _, _, _, _, _, _, _, rfl, _⟩ := h; rfl) | (obtain ⟨_, _, _, _, _, _, _, _, _, _, _, _, _, _, _, rfl, _⟩ := h; rfl)) (fun cdv A outer s H E hr => ⟨body_law_draw_1, (b3_cons (m3_set 2 (p3 (r3_max2 rfl (by rfl) B_max r3_int (r3_len (by rfl) B_len (r3_name 0)))) sc_law_draw_1.nd)
      (b3_cons (m3_set 3 (p3 (r3_ix (r3 (p3_add (r3 (p3_list (by rfl) B_list (r3_name 0))) (r3 (p3_lst (pa3_cons (p3 r3_int) pa3_nil))))) (r3_mod (r3_name 1) (r3_name 2)))) sc_law_draw_1.nd)
      (b3_cons (m3_if (t3_w (w3_or (t3_ge (r3_name 3) (r3_pow r3_int r3_int)) (w3_or1 (t3_le (r3_name 3) (r3_neg (r3_pow r3_int r3_int)))))) (b3_cons (m3_for PassesOwn.never rfl (i3_range1 (by rfl) B_range (r3_min2 rfl (by rfl) B_min (r3_fdiv (r3_name 1) (r3_name 2)) r3_int)) (g3_name 4 sc_law_draw_1.nd) (b3_one (m3_set 3 (p3 (r3_fdiv (r3_name 3) r3_int)) sc_law_draw_1.nd)))
      (b3_one (m3_ret (p3 (r3_mod (r3_name 3) r3_int))))) b3_nil)
      (b3_cons (m3_set 5 (p3 (r3_mod (r3_mul (r3_add (r3_add (r3_mod (r3_name 3) r3_int) r3_int) (r3_mul r3_int (r3_fdiv (r3_name 1) (r3_name 2)))) r3_int) r3_int)) sc_law_draw_1.nd)
      (b3_cons (m3_set 5 (p3 (r3_mod (r3_mul (r3_name 5) (r3_name 5)) r3_int)) sc_law_draw_1.nd)
      (b3_one (m3_ret (p3 (r3_mod (r3_mul (r3_name 5) r3_int) r3_int))))))))), v_law_draw_1⟩)
theorem ok_taken_off {f : Addr} {fd : FuncData} {k : Nat} (F : Fun K "taken_off" "taken_off" s_taken_off f fd) (B_zip : mg "zip" = none) : FnOk P w K mg base CX0 (k + 1) f fd ["row", "many", "other"] (lift K sp_taken_off) :=
  ok3 F sc_taken_off (fun ts Q E h => by first | (obtain ⟨rfl, _⟩ := h; rfl) | (obtain ⟨_, rfl, _⟩ := h; rfl) | (obtain ⟨_, _, rfl, _⟩ := h; rfl) | (obtain ⟨_, _, _, rfl, _⟩ := h; rfl) | (obtain ⟨_, _, _, _, rfl, _⟩ := h; rfl) | (obtain ⟨_, _, _, _, _, rfl, _⟩ := h; rfl) | (obtain ⟨_, _, _, _, _, _, rfl, _⟩ := h; rfl) | (obtain ⟨_, _, _, _, _, _, _, rfl, _⟩ := h; rfl) | (obtain ⟨_, _, _, _, _, _, _, _, rfl, _⟩ := h; rfl) | (obtain ⟨_, _, _, _, _, _, _, _, _, rfl, _⟩ := h; rfl) | (obtain ⟨_, _, _, _, _, _, _, _, _, _, rfl, _⟩ := h; rfl) | (obtain ⟨_, _, _, _, _, _, _, _, _, _, _, rfl, _⟩ := h; rfl) | (obtain ⟨_, _, _, _, _, _, _, _, _, _, _, _, rfl, _⟩ := h; rfl) | (obtain ⟨_, _, _, _, _, _, _, _, _, _, _, _, _, rfl, _⟩ := h; rfl) | (obtain ⟨_, _, _, _, _, _, _, _, _, _, _, _, _, _, rfl, _⟩ := h; rfl) | (obtain ⟨_, _, _, _, _, _, _, _, _, _, _, _, _, _, _, rfl, _⟩ := h; rfl)) (fun cdv A outer s H E hr => ⟨body_taken_off, (b3_one (m3_ret (p3_lc (own := [("number", 3), ("beside", 4)]) (js := [3, 4]) rfl sc_taken_off.nd (i3_zipX (by rfl) B_zip (r3_name 0) (r3_name 2)) (blkOk_by (N := N_taken_off) (sc := defScope s_taken_off) (by decide +kernel)) (by decide) (fun _ _ _ _ _ => (g3_tup (n := 2) rfl (gs3_cons (g3_name 3 sc_taken_off.nd) (gs3_cons (g3_name 4 sc_taken_off.nd) gs3_nil)))) (fun _ _ _ _ _ => ts3_nil) (fun _ _ _ _ _ => (p3 (r3_sub (r3_name 3) (r3_mul (r3_name 1) (r3_name 4)))))))), v_taken_off⟩)
theorem ok_stepped {f : Addr} {fd : FuncData} {k : Nat} (F : Fun K "stepped" "stepped" s_stepped f fd) (B_len : mg "len" = none) (B_list : mg "list" = none) (B_range : mg "range" = none) (C_taken_off : Cal P w K mg base "taken_off" k ["row", "many", "other"] sp_taken_off) : FnOk P w K mg base CX0 (k + 1) f fd ["rows"] (lift K sp_stepped) :=
  ok3 F sc_stepped (fun ts Q E h => by first | (obtain ⟨rfl, _⟩ := h; rfl) | (obtain ⟨_, rfl, _⟩ := h; rfl) | (obtain ⟨_, _, rfl, _⟩ := h; rfl) | (obtain ⟨_, _, _, rfl, _⟩ := h; rfl) | (obtain ⟨_, _, _, _, rfl, _⟩ := h; rfl) | (obtain ⟨_, _, _, _, _, rfl, _⟩ := h; rfl) | (obtain ⟨_, _, _, _, _, _, rfl, _⟩ := h; rfl) | (obtain ⟨_, _, _, _, _, _, _, rfl, _⟩ := h; rfl) | (obtain ⟨_, _, _, _, _, _, _, _, rfl, _⟩ := h; rfl) | (obtain ⟨_, _, _, _, _, _, _, _, _, rfl, _⟩ := h; rfl) | (obtain ⟨_, _, _, _, _, _, _, _, _, _, rfl, _⟩ := h; rfl) | (obtain ⟨_, _, _, _, _, _, _, _, _, _, _, rfl, _⟩ := h; rfl) | (obtain ⟨_, _, _, _, _, _, _, _, _, _, _, _, rfl, _⟩ := h; rfl) | (obtain ⟨_, _, _, _, _, _, _, _, _, _, _, _, _, rfl, _⟩ := h; rfl) | (obtain ⟨_, _, _, _, _, _, _, _, _, _, _, _, _, _, rfl, _⟩ := h; rfl) | (obtain ⟨_, _, _, _, _, _, _, _, _, _, _, _, _, _, _, rfl, _⟩ := h; rfl)) (fun cdv A outer s H E hr => ⟨body_stepped, (b3_cons (m3_setLc 1 (own := [("row", 5)]) (js := [5]) rfl sc_stepped.nd (i3_seq (r3_name 0)) (blkOk_by (N := N_stepped) (sc := defScope s_stepped) (by decide +kernel)) (by decide) (fun _ _ _ _ _ => (g3_name 5 sc_stepped.nd)) (fun _ _ _ _ _ => ts3_nil) (fun _ _ _ _ _ => (p3 (r3 (p3_list (by rfl) B_list (r3_name 5))))))
      (b3_cons (m3_for PassesOwn.never rfl (i3_range1 (by rfl) B_range (r3_len (by rfl) B_len (r3_name 1))) (g3_name 2 sc_stepped.nd) (b3_cons (m3_for PassesOwn.never rfl (i3_range2 (by rfl) B_range (r3_add (r3_name 2) r3_int) (r3_len (by rfl) B_len (r3_name 1))) (g3_name 3 sc_stepped.nd) (b3_one (m3_while PassesOwn.never (t3_neI (r3_ix (r3_ix (r3_name 1) (r3_name 3)) (r3_name 2)) r3_int) (b3_cons (m3_set 4 (p3 (r3_fdivF (r3_ix (r3_ix (r3_name 1) (r3_name 2)) (r3_name 2)) (r3_ix (r3_ix (r3_name 1) (r3_name 3)) (r3_name 2)))) sc_stepped.nd)
      (b3_one (m3_asg (p3_tup (pa3_cons (p3 (r3_ix (r3_name 1) (r3_name 3))) (pa3_cons (p3 (r3 (p3_cal C_taken_off hr (by rfl) (c3_val (r3_ix (r3_name 1) (r3_name 2)) (c3_val (r3_name 4) (c3_val (r3_ix (r3_name 1) (r3_name 3)) c3_nil)))))) pa3_nil))) (g3_tup (n := 2) rfl (gs3_cons (g3_sub 1 (r3_name 2)) (gs3_cons (g3_sub 1 (r3_name 3)) gs3_nil)))))))))
      (b3_one (m3_if (t3_lt (r3_ix (r3_ix (r3_name 1) (r3_name 2)) (r3_name 2)) r3_int) (b3_one (m3_asg (p3 (r3 (p3_lc (own := [("number", 6)]) (js := [6]) rfl sc_stepped.nd (i3_seq (r3_ix (r3_name 1) (r3_name 2))) (blkOk_by (N := N_stepped) (sc := defScope s_stepped) (by decide +kernel)) (by decide) (fun _ _ _ _ _ => (g3_name 6 sc_stepped.nd)) (fun _ _ _ _ _ => ts3_nil) (fun _ _ _ _ _ => (p3 (r3_sub r3_int (r3_name 6))))))) (g3_sub 1 (r3_name 2)))) b3_nil))))
      (b3_one (m3_ret (p3_move 1))))), v_stepped⟩)
theorem ok_measure_of {f : Addr} {fd : FuncData} {k : Nat} (F : Fun K "measure_of" "measure_of" s_measure_of f fd) (B_enumerate : mg "enumerate" = none) (C_stepped : Cal P w K mg base "stepped" k ["rows"] sp_stepped) : FnOk P w K mg base CX0 (k + 1) f fd ["rows"] (lift K sp_measure_of) :=
  ok3 F sc_measure_of (fun ts Q E h => by first | (obtain ⟨rfl, _⟩ := h; rfl) | (obtain ⟨_, rfl, _⟩ := h; rfl) | (obtain ⟨_, _, rfl, _⟩ := h; rfl) | (obtain ⟨_, _, _, rfl, _⟩ := h; rfl) | (obtain ⟨_, _, _, _, rfl, _⟩ := h; rfl) | (obtain ⟨_, _, _, _, _, rfl, _⟩ := h; rfl) | (obtain ⟨_, _, _, _, _, _, rfl, _⟩ := h; rfl) | (obtain ⟨_, _, _, _, _, _, _, rfl, _⟩ := h; rfl) | (obtain ⟨_, _, _, _, _, _, _, _, rfl, _⟩ := h; rfl) | (obtain ⟨_, _, _, _, _, _, _, _, _, rfl, _⟩ := h; rfl) | (obtain ⟨_, _, _, _, _, _, _, _, _, _, rfl, _⟩ := h; rfl) | (obtain ⟨_, _, _, _, _, _, _, _, _, _, _, rfl, _⟩ := h; rfl) | (obtain ⟨_, _, _, _, _, _, _, _, _, _, _, _, rfl, _⟩ := h; rfl) | (obtain ⟨_, _, _, _, _, _, _, _, _, _, _, _, _, rfl, _⟩ := h; rfl) | (obtain ⟨_, _, _, _, _, _, _, _, _, _, _, _, _, _, rfl, _⟩ := h; rfl) | (obtain ⟨_, _, _, _, _, _, _, _, _, _, _, _, _, _, _, rfl, _⟩ := h; rfl)) (fun cdv A outer s H E hr => ⟨body_measure_of, (b3_cons (m3_set 1 (p3 r3_int) sc_measure_of.nd)
      (b3_cons (m3_for PassesOwn.never rfl (i3_enum (by rfl) B_enumerate (r3 (p3_cal C_stepped hr (by rfl) (c3_val (r3_name 0) c3_nil)))) (g3_tup (n := 2) rfl (gs3_cons (g3_name 2 sc_measure_of.nd) (gs3_cons (g3_name 3 sc_measure_of.nd) gs3_nil))) (b3_one (m3_aug 1 iop_mul3 (r3_ix (r3_name 3) (r3_name 2)) sc_measure_of.nd)))
      (b3_one (m3_ret (p3_move 1))))), v_measure_of⟩)
theorem ok_is_square {f : Addr} {fd : FuncData} {k : Nat} (F : Fun K "is_square" "is_square" s_is_square f fd) (B_len : mg "len" = none) : FnOk P w K mg base CX0 (k + 1) f fd ["rows"] (lift K sp_is_square) :=
  ok3 F sc_is_square (fun ts Q E h => by first | (obtain ⟨rfl, _⟩ := h; rfl) | (obtain ⟨_, rfl, _⟩ := h; rfl) | (obtain ⟨_, _, rfl, _⟩ := h; rfl) | (obtain ⟨_, _, _, rfl, _⟩ := h; rfl) | (obtain ⟨_, _, _, _, rfl, _⟩ := h; rfl) | (obtain ⟨_, _, _, _, _, rfl, _⟩ := h; rfl) | (obtain ⟨_, _, _, _, _, _, rfl, _⟩ := h; rfl) | (obtain ⟨_, _, _, _, _, _, _, rfl, _⟩ := h; rfl) | (obtain ⟨_, _, _, _, _, _, _, _, rfl, _⟩ := h; rfl) | (obtain ⟨_, _, _, _, _, _, _, _, _, rfl, _⟩ := h; rfl) | (obtain ⟨_, _, _, _, _, _, _, _, _, _, rfl, _⟩ := h; rfl) | (obtain ⟨_, _, _, _, _, _, _, _, _, _, _, rfl, _⟩ := h; rfl) | (obtain ⟨_, _, _, _, _, _, _, _, _, _, _, _, rfl, _⟩ := h; rfl) | (obtain ⟨_, _, _, _, _, _, _, _, _, _, _, _, _, rfl, _⟩ := h; rfl) | (obtain ⟨_, _, _, _, _, _, _, _, _, _, _, _, _, _, rfl, _⟩ := h; rfl) | (obtain ⟨_, _, _, _, _, _, _, _, _, _, _, _, _, _, _, rfl, _⟩ := h; rfl)) (fun cdv A outer s H E hr => ⟨body_is_square, (b3_one (m3_ret (p3 (r3_and (r3_gt (r3_len (by rfl) B_len (r3_name 0)) r3_int) (r3_one (r3_eq hr.units (r3 (p3_lc (own := [("row", 1)]) (js := [1]) rfl sc_is_square.nd (i3_seq (r3_name 0)) (blkOk_by (N := N_is_square) (sc := defScope s_is_square) (by decide +kernel)) (by decide) (fun _ _ _ _ _ => (g3_name 1 sc_is_square.nd)) (fun _ _ _ _ _ => (ts3_one (t3_neI (r3_len (by rfl) B_len (r3_name 1)) (r3_len (by rfl) B_len (r3_name 0))))) (fun _ _ _ _ _ => (p3_move 1)))) (r3 (p3_lst pa3_nil)))))))), v_is_square⟩)
theorem ok_is_lattice {f : Addr} {fd : FuncData} {k : Nat} (F : Fun K "is_lattice" "is_lattice" s_is_lattice f fd) (C_is_square : Cal P w K mg base "is_square" k ["rows"] sp_is_square) (C_measure_of : Cal P w K mg base "measure_of" k ["rows"] sp_measure_of) : FnOk P w K mg base CX0 (k + 1) f fd ["rows"] (lift K sp_is_lattice) :=
  ok3 F sc_is_lattice (fun ts Q E h => by first | (obtain ⟨rfl, _⟩ := h; rfl) | (obtain ⟨_, rfl, _⟩ := h; rfl) | (obtain ⟨_, _, rfl, _⟩ := h; rfl) | (obtain ⟨_, _, _, rfl, _⟩ := h; rfl) | (obtain ⟨_, _, _, _, rfl, _⟩ := h; rfl) | (obtain ⟨_, _, _, _, _, rfl, _⟩ := h; rfl) | (obtain ⟨_, _, _, _, _, _, rfl, _⟩ := h; rfl) | (obtain ⟨_, _, _, _, _, _, _, rfl, _⟩ := h; rfl) | (obtain ⟨_, _, _, _, _, _, _, _, rfl, _⟩ := h; rfl) | (obtain ⟨_, _, _, _, _, _, _, _, _, rfl, _⟩ := h; rfl) | (obtain ⟨_, _, _, _, _, _, _, _, _, _, rfl, _⟩ := h; rfl) | (obtain ⟨_, _, _, _, _, _, _, _, _, _, _, rfl, _⟩ := h; rfl) | (obtain ⟨_, _, _, _, _, _, _, _, _, _, _, _, rfl, _⟩ := h; rfl) | (obtain ⟨_, _, _, _, _, _, _, _, _, _, _, _, _, rfl, _⟩ := h; rfl) | (obtain ⟨_, _, _, _, _, _, _, _, _, _, _, _, _, _, rfl, _⟩ := h; rfl) | (obtain ⟨_, _, _, _, _, _, _, _, _, _, _, _, _, _, _, rfl, _⟩ := h; rfl)) (fun cdv A outer s H E hr => ⟨body_is_lattice, (b3_one (m3_ret (p3 (r3_and (r3 (p3_cal C_is_square hr (by rfl) (c3_val (r3_name 0) c3_nil))) (r3_one (r3_gt (r3 (p3_cal C_measure_of hr (by rfl) (c3_val (r3_name 0) c3_nil))) r3_int)))))), v_is_lattice⟩)
theorem ok_need_lattice_x {f : Addr} {fd : FuncData} {k : Nat} (F : Fun K "need_lattice" "need_lattice" s_need_lattice_x f fd) (C_is_lattice : Cal P w K mg base "is_lattice" k ["rows"] sp_is_lattice) (ER : ErrOk K mg) : FnOk P w K mg base (L2.CX P w) (k + 1) f fd ["rows"] (lift K (sp_need_lattice_x (cOf mg))) :=
  ok3X F sc_need_lattice_x (fun ts Q E h => by first | (obtain ⟨rfl, _⟩ := h; rfl) | (obtain ⟨_, rfl, _⟩ := h; rfl) | (obtain ⟨_, _, rfl, _⟩ := h; rfl) | (obtain ⟨_, _, _, rfl, _⟩ := h; rfl) | (obtain ⟨_, _, _, _, rfl, _⟩ := h; rfl) | (obtain ⟨_, _, _, _, _, rfl, _⟩ := h; rfl) | (obtain ⟨_, _, _, _, _, _, rfl, _⟩ := h; rfl) | (obtain ⟨_, _, _, _, _, _, _, rfl, _⟩ := h; rfl) | (obtain ⟨_, _, _, _, _, _, _, _, rfl, _⟩ := h; rfl) | (obtain ⟨_, _, _, _, _, _, _, _, _, rfl, _⟩ := h; rfl) | (obtain ⟨_, _, _, _, _, _, _, _, _, _, rfl, _⟩ := h; rfl) | (obtain ⟨_, _, _, _, _, _, _, _, _, _, _, rfl, _⟩ := h; rfl) | (obtain ⟨_, _, _, _, _, _, _, _, _, _, _, _, rfl, _⟩ := h; rfl) | (obtain ⟨_, _, _, _, _, _, _, _, _, _, _, _, _, rfl, _⟩ := h; rfl) | (obtain ⟨_, _, _, _, _, _, _, _, _, _, _, _, _, _, rfl, _⟩ := h; rfl) | (obtain ⟨_, _, _, _, _, _, _, _, _, _, _, _, _, _, _, rfl, _⟩ := h; rfl)) (fun cdv A outer s H E hr => ⟨body_need_lattice_x (cOf mg), (b3_one (m3_if (t3_not (t3_val (r3 (p3_cal C_is_lattice hr (by rfl) (c3_val (r3_name 0) c3_nil))))) (b3_one (m3_raiseN "NoLattice" ER (by rfl))) b3_nil)), v_need_lattice_x (cOf mg)⟩)
theorem ok_measure_x {f : Addr} {fd : FuncData} {k : Nat} (F : Fun K "measure" "measure" s_measure_x f fd) (C_measure_of : Cal P w K mg base "measure_of" k ["rows"] sp_measure_of) (C_need_lattice_x : CalX P w K mg base "need_lattice" k ["rows"] (sp_need_lattice_x (cOf mg))) : FnOk P w K mg base (L2.CX P w) (k + 1) f fd ["rows"] (lift K (sp_measure_x (cOf mg))) :=
  ok3X F sc_measure_x (fun ts Q E h => by first | (obtain ⟨rfl, _⟩ := h; rfl) | (obtain ⟨_, rfl, _⟩ := h; rfl) | (obtain ⟨_, _, rfl, _⟩ := h; rfl) | (obtain ⟨_, _, _, rfl, _⟩ := h; rfl) | (obtain ⟨_, _, _, _, rfl, _⟩ := h; rfl) | (obtain ⟨_, _, _, _, _, rfl, _⟩ := h; rfl) | (obtain ⟨_, _, _, _, _, _, rfl, _⟩ := h; rfl) | (obtain ⟨_, _, _, _, _, _, _, rfl, _⟩ := h; rfl) | (obtain ⟨_, _, _, _, _, _, _, _, rfl, _⟩ := h; rfl) | (obtain ⟨_, _, _, _, _, _, _, _, _, rfl, _⟩ := h; rfl) | (obtain ⟨_, _, _, _, _, _, _, _, _, _, rfl, _⟩ := h; rfl) | (obtain ⟨_, _, _, _, _, _, _, _, _, _, _, rfl, _⟩ := h; rfl) | (obtain ⟨_, _, _, _, _, _, _, _, _, _, _, _, rfl, _⟩ := h; rfl) | (obtain ⟨_, _, _, _, _, _, _, _, _, _, _, _, _, rfl, _⟩ := h; rfl) | (obtain ⟨_, _, _, _, _, _, _, _, _, _, _, _, _, _, rfl, _⟩ := h; rfl) | (obtain ⟨_, _, _, _, _, _, _, _, _, _, _, _, _, _, _, rfl, _⟩ := h; rfl)) (fun cdv A outer s H E hr => ⟨body_measure_x (cOf mg), (b3_cons (m3_exprX (p3w_cal C_need_lattice_x hr (by rfl) (c3_val (r3_name 0) c3_nil)))
      (b3_nox (b3_one (m3_ret (p3_cal C_measure_of hr (by rfl) (c3_val (r3_name 0) c3_nil)))))), v_measure_x (cOf mg)⟩)
theorem ok_minor_of {f : Addr} {fd : FuncData} {k : Nat} (F : Fun K "minor_of" "minor_of" s_minor_of f fd) (B_enumerate : mg "enumerate" = none) (B_tuple : mg "tuple" = none) : FnOk P w K mg base CX0 (k + 1) f fd ["rows", "skip_row", "skip_place"] (lift K sp_minor_of) :=
  ok3 F sc_minor_of (fun ts Q E h => by first | (obtain ⟨rfl, _⟩ := h; rfl) | (obtain ⟨_, rfl, _⟩ := h; rfl) | (obtain ⟨_, _, rfl, _⟩ := h; rfl) | (obtain ⟨_, _, _, rfl, _⟩ := h; rfl) | (obtain ⟨_, _, _, _, rfl, _⟩ := h; rfl) | (obtain ⟨_, _, _, _, _, rfl, _⟩ := h; rfl) | (obtain ⟨_, _, _, _, _, _, rfl, _⟩ := h; rfl) | (obtain ⟨_, _, _, _, _, _, _, rfl, _⟩ := h; rfl) | (obtain ⟨_, _, _, _, _, _, _, _, rfl, _⟩ := h; rfl) | (obtain ⟨_, _, _, _, _, _, _, _, _, rfl, _⟩ := h; rfl) | (obtain ⟨_, _, _, _, _, _, _, _, _, _, rfl, _⟩ := h; rfl) | (obtain ⟨_, _, _, _, _, _, _, _, _, _, _, rfl, _⟩ := h; rfl) | (obtain ⟨_, _, _, _, _, _, _, _, _, _, _, _, rfl, _⟩ := h; rfl) | (obtain ⟨_, _, _, _, _, _, _, _, _, _, _, _, _, rfl, _⟩ := h; rfl) | (obtain ⟨_, _, _, _, _, _, _, _, _, _, _, _, _, _, rfl, _⟩ := h; rfl) | (obtain ⟨_, _, _, _, _, _, _, _, _, _, _, _, _, _, _, rfl, _⟩ := h; rfl)) (fun cdv A outer s H E hr => ⟨body_minor_of, (b3_cons (m3_set 3 (p3_lst pa3_nil) sc_minor_of.nd)
      (b3_cons (m3_for PassesOwn.never rfl (i3_enumX (by rfl) B_enumerate (r3_name 0)) (g3_tup (n := 2) rfl (gs3_cons (g3_name 4 sc_minor_of.nd) (gs3_cons (g3_name 5 sc_minor_of.nd) gs3_nil))) (b3_one (m3_if (t3_ne hr.units (r3_name 4) (r3_name 1)) (b3_one (m3_expr (p3_append 3 (p3_add (r3 (p3_sl (r3_name 5) po3_none (po3_some (r3_name 2)))) (r3 (p3_sl (r3_name 5) (po3_some (r3_add (r3_name 2) r3_int)) po3_none)))))) b3_nil)))
      (b3_one (m3_ret (p3 (r3_tuple (by rfl) B_tuple (r3_name 3))))))), v_minor_of⟩)
theorem ok_span_of {f : Addr} {fd : FuncData} {k : Nat} (n : Nat) (F : Fun K "span_of" "span_of" s_span_of f fd) (B_enumerate : mg "enumerate" = none) (C_minor_of : Cal P w K mg base "minor_of" k ["rows", "skip_row", "skip_place"] sp_minor_of) (C_span_of : Cal P w K mg base "span_of" k ["rows"] (sp_span_of n)) : FnOk P w K mg base CX0 (k + 1) f fd ["rows"] (lift K (sp_span_of (n + 1))) :=
  ok3 F sc_span_of (fun ts Q E h => by first | (obtain ⟨rfl, _⟩ := h; rfl) | (obtain ⟨_, rfl, _⟩ := h; rfl) | (obtain ⟨_, _, rfl, _⟩ := h; rfl) | (obtain ⟨_, _, _, rfl, _⟩ := h; rfl) | (obtain ⟨_, _, _, _, rfl, _⟩ := h; rfl) | (obtain ⟨_, _, _, _, _, rfl, _⟩ := h; rfl) | (obtain ⟨_, _, _, _, _, _, rfl, _⟩ := h; rfl) | (obtain ⟨_, _, _, _, _, _, _, rfl, _⟩ := h; rfl) | (obtain ⟨_, _, _, _, _, _, _, _, rfl, _⟩ := h; rfl) | (obtain ⟨_, _, _, _, _, _, _, _, _, rfl, _⟩ := h; rfl) | (obtain ⟨_, _, _, _, _, _, _, _, _, _, rfl, _⟩ := h; rfl) | (obtain ⟨_, _, _, _, _, _, _, _, _, _, _, rfl, _⟩ := h; rfl) | (obtain ⟨_, _, _, _, _, _, _, _, _, _, _, _, rfl, _⟩ := h; rfl) | (obtain ⟨_, _, _, _, _, _, _, _, _, _, _, _, _, rfl, _⟩ := h; rfl) | (obtain ⟨_, _, _, _, _, _, _, _, _, _, _, _, _, _, rfl, _⟩ := h; rfl) | (obtain ⟨_, _, _, _, _, _, _, _, _, _, _, _, _, _, _, rfl, _⟩ := h; rfl)) (fun cdv A outer s H E hr => ⟨body_span_of (sp_span_of n), (b3_cons (m3_if (t3_eq hr.units (r3_name 0) (r3 (p3_tup pa3_nil))) (b3_one (m3_ret (p3 r3_int))) b3_nil)
      (b3_cons (m3_set 1 (p3 r3_int) sc_span_of.nd)
      (b3_cons (m3_for PassesOwn.never rfl (i3_enumX (by rfl) B_enumerate (r3_ix (r3_name 0) r3_int)) (g3_tup (n := 2) rfl (gs3_cons (g3_name 2 sc_span_of.nd) (gs3_cons (g3_name 3 sc_span_of.nd) gs3_nil))) (b3_one (m3_if (t3_neI (r3_name 3) r3_int) (b3_cons (m3_set 4 (p3 (r3_mul (r3_name 3) (r3 (p3_cal C_span_of hr (by rfl) (c3_val (r3 (p3_cal C_minor_of hr (by rfl) (c3_val (r3_name 0) (c3_val r3_int (c3_val (r3_name 2) c3_nil))))) c3_nil))))) sc_span_of.nd)
      (b3_one (m3_set 1 (p3_add (r3_name 1) (r3_ix (r3 (p3_lst (pa3_cons (p3_move 4) (pa3_cons (p3 (r3_sub r3_int (r3_name 4))) pa3_nil)))) (r3_mod (r3_name 2) r3_int))) sc_span_of.nd))) b3_nil)))
      (b3_one (m3_ret (p3_move 1)))))), v_span_of n⟩)
theorem okn_span_of {f : Addr} {fd : FuncData} {k : Nat} (F : Fun K "span_of" "span_of" s_span_of f fd) (hm : mg "span_of" = some (.ref f)) (hk : PySem.W.keepIn K (.ref f) = true) (hb : Binds K fd ["rows"] []) (B_enumerate : mg "enumerate" = none) (C_minor_of : Cal P w K mg base "minor_of" k ["rows", "skip_row", "skip_place"] sp_minor_of) (z0 : ∀ ts Q E, sp_span_of 0 ts Q E → False) : ∀ n, FnOk P w K mg base CX0 (k + n + 1) f fd ["rows"] (lift K (sp_span_of n))
  | 0 => ok0 F sc_span_of z0
  | n + 1 => ok_span_of n F B_enumerate (C_minor_of.mono (by omega)) ⟨f, fd, okn_span_of F hm hk hb B_enumerate C_minor_of z0 n, hm, hk, hb⟩
theorem ok_least_bounds_x {f : Addr} {fd : FuncData} {k : Nat} (F : Fun K "least_bounds" "least_bounds" s_least_bounds_x f fd) (B_abs : mg "abs" = none) (B_len : mg "len" = none) (B_range : mg "range" = none) (B_sum : mg "sum" = none) (B_tuple : mg "tuple" = none) (C_measure_x : CalX P w K mg base "measure" k ["rows"] (sp_measure_x (cOf mg))) (C_minor_of : Cal P w K mg base "minor_of" k ["rows", "skip_row", "skip_place"] sp_minor_of) (C_span_of : Cal P w K mg base "span_of" k ["rows"] (sp_span_of 8)) : FnOk P w K mg base (L2.CX P w) (k + 1) f fd ["rows", "size"] (lift K (sp_least_bounds_x (cOf mg))) :=
  ok3X F sc_least_bounds_x (fun ts Q E h => by first | (obtain ⟨rfl, _⟩ := h; rfl) | (obtain ⟨_, rfl, _⟩ := h; rfl) | (obtain ⟨_, _, rfl, _⟩ := h; rfl) | (obtain ⟨_, _, _, rfl, _⟩ := h; rfl) | (obtain ⟨_, _, _, _, rfl, _⟩ := h; rfl) | (obtain ⟨_, _, _, _, _, rfl, _⟩ := h; rfl) | (obtain ⟨_, _, _, _, _, _, rfl, _⟩ := h; rfl) | (obtain ⟨_, _, _, _, _, _, _, rfl, _⟩ := h; rfl) | (obtain ⟨_, _, _, _, _, _, _, _, rfl, _⟩ := h; rfl) | (obtain ⟨_, _, _, _, _, _, _, _, _, rfl, _⟩ := h; rfl) | (obtain ⟨_, _, _, _, _, _, _, _, _, _, rfl, _⟩ := h; rfl) | (obtain ⟨_, _, _, _, _, _, _, _, _, _, _, rfl, _⟩ := h; rfl) | (obtain ⟨_, _, _, _, _, _, _, _, _, _, _, _, rfl, _⟩ := h; rfl) | (obtain ⟨_, _, _, _, _, _, _, _, _, _, _, _, _, rfl, _⟩ := h; rfl) | (obtain ⟨_, _, _, _, _, _, _, _, _, _, _, _, _, _, rfl, _⟩ := h; rfl) | (obtain ⟨_, _, _, _, _, _, _, _, _, _, _, _, _, _, _, rfl, _⟩ := h; rfl)) (fun cdv A outer s H E hr => ⟨body_least_bounds_x (cOf mg), (b3_cons (m3_asgX (p3w_cal C_measure_x hr (by rfl) (c3_val (r3_name 0) c3_nil)) (g3_name 2 sc_least_bounds_x.nd))
      (b3_nox (b3_cons (m3_set 3 (p3_lst pa3_nil) sc_least_bounds_x.nd)
      (b3_cons (m3_for PassesOwn.never rfl (i3_range1 (by rfl) B_range (r3_len (by rfl) B_len (r3_name 0))) (g3_name 4 sc_least_bounds_x.nd) (b3_cons (m3_set 5 (p3 (r3_sum rfl (by rfl) B_sum (r3 (p3_lc (own := [("j", 6)]) (js := [6]) rfl sc_least_bounds_x.nd (i3_range1 (by rfl) B_range (r3_len (by rfl) B_len (r3_name 0))) (blkOk_by (N := N_least_bounds_x) (sc := defScope s_least_bounds_x) (by decide +kernel)) (by decide) (fun _ _ _ _ _ => (g3_name 6 sc_least_bounds_x.nd)) (fun _ _ _ _ _ => ts3_nil) (fun _ _ _ _ _ => (p3 (r3_abs (by rfl) B_abs (r3 (p3_cal C_span_of hr (by rfl) (c3_val (r3 (p3_cal C_minor_of hr (by rfl) (c3_val (r3_name 0) (c3_val (r3_name 4) (c3_val (r3_name 6) c3_nil))))) c3_nil)))))))))) sc_least_bounds_x.nd)
      (b3_one (m3_expr (p3_append 3 (p3 (r3_fdiv (r3_mul (r3_name 1) (r3_name 5)) (r3_name 2))))))))
      (b3_one (m3_ret (p3 (r3_tuple (by rfl) B_tuple (r3_name 3))))))))), v_least_bounds_x (cOf mg)⟩)
theorem ok_determinant {f : Addr} {fd : FuncData} {k : Nat} (n : Nat) (F : Fun K "determinant" "determinant" s_determinant f fd) (B_enumerate : mg "enumerate" = none) (C_determinant : Cal P w K mg base "determinant" k ["rows"] (sp_determinant n)) : FnOk P w K mg base CX0 (k + 1) f fd ["rows"] (lift K (sp_determinant (n + 1))) :=
  ok3 F sc_determinant (fun ts Q E h => by first | (obtain ⟨rfl, _⟩ := h; rfl) | (obtain ⟨_, rfl, _⟩ := h; rfl) | (obtain ⟨_, _, rfl, _⟩ := h; rfl) | (obtain ⟨_, _, _, rfl, _⟩ := h; rfl) | (obtain ⟨_, _, _, _, rfl, _⟩ := h; rfl) | (obtain ⟨_, _, _, _, _, rfl, _⟩ := h; rfl) | (obtain ⟨_, _, _, _, _, _, rfl, _⟩ := h; rfl) | (obtain ⟨_, _, _, _, _, _, _, rfl, _⟩ := h; rfl) | (obtain ⟨_, _, _, _, _, _, _, _, rfl, _⟩ := h; rfl) | (obtain ⟨_, _, _, _, _, _, _, _, _, rfl, _⟩ := h; rfl) | (obtain ⟨_, _, _, _, _, _, _, _, _, _, rfl, _⟩ := h; rfl) | (obtain ⟨_, _, _, _, _, _, _, _, _, _, _, rfl, _⟩ := h; rfl) | (obtain ⟨_, _, _, _, _, _, _, _, _, _, _, _, rfl, _⟩ := h; rfl) | (obtain ⟨_, _, _, _, _, _, _, _, _, _, _, _, _, rfl, _⟩ := h; rfl) | (obtain ⟨_, _, _, _, _, _, _, _, _, _, _, _, _, _, rfl, _⟩ := h; rfl) | (obtain ⟨_, _, _, _, _, _, _, _, _, _, _, _, _, _, _, rfl, _⟩ := h; rfl)) (fun cdv A outer s H E hr => ⟨body_determinant (sp_determinant n), (b3_cons (m3_if (t3_eq hr.units (r3_name 0) (r3 (p3_lst pa3_nil))) (b3_one (m3_ret (p3 r3_int))) b3_nil)
      (b3_cons (m3_set 1 (p3 r3_int) sc_determinant.nd)
      (b3_cons (m3_for PassesOwn.never rfl (i3_enumX (by rfl) B_enumerate (r3_ix (r3_name 0) r3_int)) (g3_tup (n := 2) rfl (gs3_cons (g3_name 2 sc_determinant.nd) (gs3_cons (g3_name 3 sc_determinant.nd) gs3_nil))) (b3_one (m3_if (t3_neI (r3_name 3) r3_int) (b3_cons (m3_setLc 4 (own := [("row", 5)]) (js := [5]) rfl sc_determinant.nd (i3_seq (r3 (p3_sl (r3_name 0) (po3_some r3_int) po3_none))) (blkOk_by (N := N_determinant) (sc := defScope s_determinant) (by decide +kernel)) (by decide) (fun _ _ _ _ _ => (g3_name 5 sc_determinant.nd)) (fun _ _ _ _ _ => ts3_nil) (fun _ _ _ _ _ => (p3 (r3 (p3_add (r3 (p3_sl (r3_name 5) po3_none (po3_some (r3_name 2)))) (r3 (p3_sl (r3_name 5) (po3_some (r3_add (r3_name 2) r3_int)) po3_none)))))))
      (b3_fz 4 (b3_one (m3_aug 1 iop_add3 (r3_mul (r3_mul (r3_name 3) (r3 (p3_cal C_determinant hr (by rfl) (c3_val (r3_name 4) c3_nil)))) (r3_sub r3_int (r3_mul r3_int (r3_mod (r3_name 2) r3_int)))) sc_determinant.nd)))) b3_nil)))
      (b3_one (m3_ret (p3_move 1)))))), v_determinant n⟩)
theorem okn_determinant {f : Addr} {fd : FuncData} {k : Nat} (F : Fun K "determinant" "determinant" s_determinant f fd) (hm : mg "determinant" = some (.ref f)) (hk : PySem.W.keepIn K (.ref f) = true) (hb : Binds K fd ["rows"] []) (B_enumerate : mg "enumerate" = none) (z0 : ∀ ts Q E, sp_determinant 0 ts Q E → False) : ∀ n, FnOk P w K mg base CX0 (k + n + 1) f fd ["rows"] (lift K (sp_determinant n))
  | 0 => ok0 F sc_determinant z0
  | n + 1 => ok_determinant n F B_enumerate ⟨f, fd, okn_determinant F hm hk hb B_enumerate z0 n, hm, hk, hb⟩
theorem ok_multiples {f : Addr} {fd : FuncData} {k : Nat} (F : Fun K "multiples" "multiples" s_multiples f fd) (B_max : mg "max" = none) (B_min : mg "min" = none) (B_zip : mg "zip" = none) : FnOk P w K mg base CX0 (k + 1) f fd ["own", "whole", "lows", "highs"] (lift K sp_multiples) :=
  ok3 F sc_multiples (fun ts Q E h => by first | (obtain ⟨rfl, _⟩ := h; rfl) | (obtain ⟨_, rfl, _⟩ := h; rfl) | (obtain ⟨_, _, rfl, _⟩ := h; rfl) | (obtain ⟨_, _, _, rfl, _⟩ := h; rfl) | (obtain ⟨_, _, _, _, rfl, _⟩ := h; rfl) | (obtain ⟨_, _, _, _, _, rfl, _⟩ := h; rfl) | (obtain ⟨_, _, _, _, _, _, rfl, _⟩ := h; rfl) | (obtain ⟨_, _, _, _, _, _, _, rfl, _⟩ := h; rfl) | (obtain ⟨_, _, _, _, _, _, _, _, rfl, _⟩ := h; rfl) | (obtain ⟨_, _, _, _, _, _, _, _, _, rfl, _⟩ := h; rfl) | (obtain ⟨_, _, _, _, _, _, _, _, _, _, rfl, _⟩ := h; rfl) | (obtain ⟨_, _, _, _, _, _, _, _, _, _, _, rfl, _⟩ := h; rfl) | (obtain ⟨_, _, _, _, _, _, _, _, _, _, _, _, rfl, _⟩ := h; rfl) | (obtain ⟨_, _, _, _, _, _, _, _, _, _, _, _, _, rfl, _⟩ := h; rfl) | (obtain ⟨_, _, _, _, _, _, _, _, _, _, _, _, _, _, rfl, _⟩ := h; rfl) | (obtain ⟨_, _, _, _, _, _, _, _, _, _, _, _, _, _, _, rfl, _⟩ := h; rfl)) (fun cdv A outer s H E hr => ⟨body_multiples, (b3_cons (m3_set 4 (p3 r3_int) sc_multiples.nd)
      (b3_cons (m3_set 5 (p3 r3_int) sc_multiples.nd)
      (b3_cons (m3_for PassesOwn.never rfl (i3_zip3 (by rfl) B_zip (r3_name 0) (r3_name 2) (r3_name 3)) (g3_tup (n := 3) rfl (gs3_cons (g3_name 6 sc_multiples.nd) (gs3_cons (g3_name 7 sc_multiples.nd) (gs3_cons (g3_name 8 sc_multiples.nd) gs3_nil)))) (b3_cons (m3_aug 4 iop_add3 (r3_min2 rfl (by rfl) B_min (r3_mul (r3_name 6) (r3_name 7)) (r3_mul (r3_name 6) (r3_name 8))) sc_multiples.nd)
      (b3_one (m3_aug 5 iop_add3 (r3_max2 rfl (by rfl) B_max (r3_mul (r3_name 6) (r3_name 7)) (r3_mul (r3_name 6) (r3_name 8))) sc_multiples.nd))))
      (b3_cons (m3_if (t3_lt (r3_name 1) r3_int) (b3_one (m3_par3 4 5 1 rfl (pa3_cons (p3 (r3_sub r3_int (r3_name 5))) (pa3_cons (p3 (r3_sub r3_int (r3_name 4))) (pa3_cons (p3 (r3_sub r3_int (r3_name 1))) pa3_nil))) sc_multiples.nd)) b3_nil)
      (b3_one (m3_ret (p3_tup (pa3_cons (p3 (r3_sub r3_int (r3_fdiv (r3_sub r3_int (r3_name 4)) (r3_name 1)))) (pa3_cons (p3 (r3_fdiv (r3_name 5) (r3_name 1))) pa3_nil))))))))), v_multiples⟩)
theorem ok_put_to {f : Addr} {fd : FuncData} {k : Nat} (F : Fun K "put_to" "put_to" s_put_to f fd) (B_range : mg "range" = none) (C_taken_off : Cal P w K mg base "taken_off" k ["row", "many", "other"] sp_taken_off) : FnOk P w K mg base CX0 (k + 1) f fd ["sums", "row", "least", "most"] (lift K sp_put_to) :=
  ok3 F sc_put_to (fun ts Q E h => by first | (obtain ⟨rfl, _⟩ := h; rfl) | (obtain ⟨_, rfl, _⟩ := h; rfl) | (obtain ⟨_, _, rfl, _⟩ := h; rfl) | (obtain ⟨_, _, _, rfl, _⟩ := h; rfl) | (obtain ⟨_, _, _, _, rfl, _⟩ := h; rfl) | (obtain ⟨_, _, _, _, _, rfl, _⟩ := h; rfl) | (obtain ⟨_, _, _, _, _, _, rfl, _⟩ := h; rfl) | (obtain ⟨_, _, _, _, _, _, _, rfl, _⟩ := h; rfl) | (obtain ⟨_, _, _, _, _, _, _, _, rfl, _⟩ := h; rfl) | (obtain ⟨_, _, _, _, _, _, _, _, _, rfl, _⟩ := h; rfl) | (obtain ⟨_, _, _, _, _, _, _, _, _, _, rfl, _⟩ := h; rfl) | (obtain ⟨_, _, _, _, _, _, _, _, _, _, _, rfl, _⟩ := h; rfl) | (obtain ⟨_, _, _, _, _, _, _, _, _, _, _, _, rfl, _⟩ := h; rfl) | (obtain ⟨_, _, _, _, _, _, _, _, _, _, _, _, _, rfl, _⟩ := h; rfl) | (obtain ⟨_, _, _, _, _, _, _, _, _, _, _, _, _, _, rfl, _⟩ := h; rfl) | (obtain ⟨_, _, _, _, _, _, _, _, _, _, _, _, _, _, _, rfl, _⟩ := h; rfl)) (fun cdv A outer s H E hr => ⟨body_put_to, (b3_cons (m3_set 4 (p3_lst pa3_nil) sc_put_to.nd)
      (b3_cons (m3_for PassesOwn.never rfl (i3_seq (r3_name 0)) (g3_name 5 sc_put_to.nd) (b3_one (m3_for PassesOwn.never rfl (i3_range2 (by rfl) B_range (r3_name 2) (r3_add (r3_name 3) r3_int)) (g3_name 6 sc_put_to.nd) (b3_one (m3_expr (p3 (r3 (p3_append 4 (p3 (r3 (p3_cal C_taken_off hr (by rfl) (c3_val (r3_name 5) (c3_val (r3_sub r3_int (r3_name 6)) (c3_val (r3_name 1) c3_nil))))))))))))))
      (b3_one (m3_ret (p3_move 4))))), v_put_to⟩)
theorem ok_stretch_in {f : Addr} {fd : FuncData} {k : Nat} (F : Fun K "stretch_in" "stretch_in" s_stretch_in f fd) (B_abs : mg "abs" = none) (B_max : mg "max" = none) (B_min : mg "min" = none) (B_zip : mg "zip" = none) : FnOk P w K mg base CX0 (k + 1) f fd ["start", "row", "lows", "highs"] (lift K sp_stretch_in) :=
  ok3 F sc_stretch_in (fun ts Q E h => by first | (obtain ⟨rfl, _⟩ := h; rfl) | (obtain ⟨_, rfl, _⟩ := h; rfl) | (obtain ⟨_, _, rfl, _⟩ := h; rfl) | (obtain ⟨_, _, _, rfl, _⟩ := h; rfl) | (obtain ⟨_, _, _, _, rfl, _⟩ := h; rfl) | (obtain ⟨_, _, _, _, _, rfl, _⟩ := h; rfl) | (obtain ⟨_, _, _, _, _, _, rfl, _⟩ := h; rfl) | (obtain ⟨_, _, _, _, _, _, _, rfl, _⟩ := h; rfl) | (obtain ⟨_, _, _, _, _, _, _, _, rfl, _⟩ := h; rfl) | (obtain ⟨_, _, _, _, _, _, _, _, _, rfl, _⟩ := h; rfl) | (obtain ⟨_, _, _, _, _, _, _, _, _, _, rfl, _⟩ := h; rfl) | (obtain ⟨_, _, _, _, _, _, _, _, _, _, _, rfl, _⟩ := h; rfl) | (obtain ⟨_, _, _, _, _, _, _, _, _, _, _, _, rfl, _⟩ := h; rfl) | (obtain ⟨_, _, _, _, _, _, _, _, _, _, _, _, _, rfl, _⟩ := h; rfl) | (obtain ⟨_, _, _, _, _, _, _, _, _, _, _, _, _, _, rfl, _⟩ := h; rfl) | (obtain ⟨_, _, _, _, _, _, _, _, _, _, _, _, _, _, _, rfl, _⟩ := h; rfl)) (fun cdv A outer s H E hr => ⟨body_stretch_in, (b3_cons (m3_asg (p3_tup (pa3_cons (p3 r3_none) (pa3_cons (p3 r3_none) pa3_nil))) (g3_tup (n := 2) rfl (gs3_cons (g3_name 4 sc_stretch_in.nd) (gs3_cons (g3_name 5 sc_stretch_in.nd) gs3_nil))))
      (b3_cons (m3_for PassesOwn.never rfl (i3_zip4 (by rfl) B_zip (r3_name 0) (r3_name 1) (r3_name 2) (r3_name 3)) (g3_tup (n := 4) rfl (gs3_cons (g3_name 6 sc_stretch_in.nd) (gs3_cons (g3_name 7 sc_stretch_in.nd) (gs3_cons (g3_name 8 sc_stretch_in.nd) (gs3_cons (g3_name 9 sc_stretch_in.nd) gs3_nil))))) (b3_cons (m3_if (t3_w (w3_and (t3_eqI (r3_name 7) r3_int) (w3_and1 (t3_not (t3_chain (p := pLe) (q := pLe) op_le op_le (r3_name 8) (r3_name 6) (r3_name 9)))))) (b3_one (m3_ret (p3 r3_none))) b3_nil)
      (b3_one (m3_if (t3_neI (r3_name 7) r3_int) (b3_cons (m3_asg (p3_if (t3_gt (r3_name 7) r3_int) (p3_tup (pa3_cons (p3 (r3_sub (r3_name 8) (r3_name 6))) (pa3_cons (p3 (r3_sub (r3_name 9) (r3_name 6))) pa3_nil))) (p3_tup (pa3_cons (p3 (r3_sub (r3_name 6) (r3_name 9))) (pa3_cons (p3 (r3_sub (r3_name 6) (r3_name 8))) pa3_nil)))) (g3_tup (n := 2) rfl (gs3_cons (g3_name 10 sc_stretch_in.nd) (gs3_cons (g3_name 11 sc_stretch_in.nd) gs3_nil))))
      (b3_cons (m3_par 12 13 rfl (pa3_cons (p3 (r3_sub r3_int (r3_fdiv (r3_sub r3_int (r3_name 10)) (r3_abs (by rfl) B_abs (r3_name 7))))) (pa3_cons (p3 (r3_fdiv (r3_name 11) (r3_abs (by rfl) B_abs (r3_name 7)))) pa3_nil)) sc_stretch_in.nd)
      (b3_cons (m3_set 4 (p3 (r3_if (t3_isN (r3_name 4) r3_none) (r3_name 12) (r3_max2 rfl (by rfl) B_max (r3_name 4) (r3_name 12)))) sc_stretch_in.nd)
      (b3_one (m3_set 5 (p3 (r3_if (t3_isN (r3_name 5) r3_none) (r3_name 13) (r3_min2 rfl (by rfl) B_min (r3_name 5) (r3_name 13)))) sc_stretch_in.nd))))) b3_nil))))
      (b3_one (m3_ret (p3_if (t3_le (r3_name 4) (r3_name 5)) (p3_tup (pa3_cons (p3_move 4) (pa3_cons (p3_move 5) pa3_nil))) (p3 r3_none)))))), v_stretch_in⟩)
theorem ok_turned_back {f : Addr} {fd : FuncData} {k : Nat} (F : Fun K "turned_back" "turned_back" s_turned_back f fd) (B_enumerate : mg "enumerate" = none) (B_len : mg "len" = none) (B_range : mg "range" = none) (C_determinant : Cal P w K mg base "determinant" k ["rows"] (sp_determinant 8)) : FnOk P w K mg base CX0 (k + 1) f fd ["rows"] (lift K sp_turned_back) :=
  ok3 F sc_turned_back (fun ts Q E h => by first | (obtain ⟨rfl, _⟩ := h; rfl) | (obtain ⟨_, rfl, _⟩ := h; rfl) | (obtain ⟨_, _, rfl, _⟩ := h; rfl) | (obtain ⟨_, _, _, rfl, _⟩ := h; rfl) | (obtain ⟨_, _, _, _, rfl, _⟩ := h; rfl) | (obtain ⟨_, _, _, _, _, rfl, _⟩ := h; rfl) | (obtain ⟨_, _, _, _, _, _, rfl, _⟩ := h; rfl) | (obtain ⟨_, _, _, _, _, _, _, rfl, _⟩ := h; rfl) | (obtain ⟨_, _, _, _, _, _, _, _, rfl, _⟩ := h; rfl) | (obtain ⟨_, _, _, _, _, _, _, _, _, rfl, _⟩ := h; rfl) | (obtain ⟨_, _, _, _, _, _, _, _, _, _, rfl, _⟩ := h; rfl) | (obtain ⟨_, _, _, _, _, _, _, _, _, _, _, rfl, _⟩ := h; rfl) | (obtain ⟨_, _, _, _, _, _, _, _, _, _, _, _, rfl, _⟩ := h; rfl) | (obtain ⟨_, _, _, _, _, _, _, _, _, _, _, _, _, rfl, _⟩ := h; rfl) | (obtain ⟨_, _, _, _, _, _, _, _, _, _, _, _, _, _, rfl, _⟩ := h; rfl) | (obtain ⟨_, _, _, _, _, _, _, _, _, _, _, _, _, _, _, rfl, _⟩ := h; rfl)) (fun cdv A outer s H E hr => ⟨body_turned_back, (b3_cons (m3_set 1 (p3_lst pa3_nil) sc_turned_back.nd)
      (b3_cons (m3_for PassesOwn.never rfl (i3_range1 (by rfl) B_range (r3_len (by rfl) B_len (r3_name 0))) (g3_name 2 sc_turned_back.nd) (b3_cons (m3_set 3 (p3_lst pa3_nil) sc_turned_back.nd)
      (b3_cons (m3_for PassesOwn.never rfl (i3_range1 (by rfl) B_range (r3_len (by rfl) B_len (r3_name 0))) (g3_name 4 sc_turned_back.nd) (b3_cons (m3_setLc 5 (own := [("k", 6), ("row", 7)]) (js := [6, 7]) rfl sc_turned_back.nd (i3_enumX (by rfl) B_enumerate (r3_name 0)) (blkOk_by (N := N_turned_back) (sc := defScope s_turned_back) (by decide +kernel)) (by decide) (fun _ _ _ _ _ => (g3_tup (n := 2) rfl (gs3_cons (g3_name 6 sc_turned_back.nd) (gs3_cons (g3_name 7 sc_turned_back.nd) gs3_nil)))) (fun _ _ _ _ _ => (ts3_one (t3_ne hr.units (r3_name 6) (r3_name 2)))) (fun _ _ _ _ _ => (p3 (r3 (p3_add (r3 (p3_sl (r3_name 7) po3_none (po3_some (r3_name 4)))) (r3 (p3_sl (r3_name 7) (po3_some (r3_add (r3_name 4) r3_int)) po3_none)))))))
      (b3_fz 5 (b3_one (m3_expr (p3 (r3 (p3_append 3 (p3 (r3_mul (r3 (p3_cal C_determinant hr (by rfl) (c3_val (r3_name 5) c3_nil))) (r3_sub r3_int (r3_mul r3_int (r3_mod (r3 (p3_add (r3_name 2) (r3_name 4))) r3_int)))))))))))))
      (b3_one (m3_expr (p3 (r3 (p3_append 1 (p3 (r3 (p3_move 3)))))))))))
      (b3_one (m3_ret (p3_move 1))))), v_turned_back⟩)
theorem ok_stretches {f : Addr} {fd : FuncData} {k : Nat} (F : Fun K "stretches" "stretches" s_stretches f fd) (B_len : mg "len" = none) (B_range : mg "range" = none) (C_determinant : Cal P w K mg base "determinant" k ["rows"] (sp_determinant 8)) (C_multiples : Cal P w K mg base "multiples" k ["own", "whole", "lows", "highs"] sp_multiples) (C_put_to : Cal P w K mg base "put_to" k ["sums", "row", "least", "most"] sp_put_to) (C_stretch_in : Cal P w K mg base "stretch_in" k ["start", "row", "lows", "highs"] sp_stretch_in) (C_turned_back : Cal P w K mg base "turned_back" k ["rows"] sp_turned_back) : FnOk P w K mg base CX0 (k + 1) f fd ["rows", "lows", "highs"] (lift K sp_stretches) :=
  ok3 F sc_stretches (fun ts Q E h => by first | (obtain ⟨rfl, _⟩ := h; rfl) | (obtain ⟨_, rfl, _⟩ := h; rfl) | (obtain ⟨_, _, rfl, _⟩ := h; rfl) | (obtain ⟨_, _, _, rfl, _⟩ := h; rfl) | (obtain ⟨_, _, _, _, rfl, _⟩ := h; rfl) | (obtain ⟨_, _, _, _, _, rfl, _⟩ := h; rfl) | (obtain ⟨_, _, _, _, _, _, rfl, _⟩ := h; rfl) | (obtain ⟨_, _, _, _, _, _, _, rfl, _⟩ := h; rfl) | (obtain ⟨_, _, _, _, _, _, _, _, rfl, _⟩ := h; rfl) | (obtain ⟨_, _, _, _, _, _, _, _, _, rfl, _⟩ := h; rfl) | (obtain ⟨_, _, _, _, _, _, _, _, _, _, rfl, _⟩ := h; rfl) | (obtain ⟨_, _, _, _, _, _, _, _, _, _, _, rfl, _⟩ := h; rfl) | (obtain ⟨_, _, _, _, _, _, _, _, _, _, _, _, rfl, _⟩ := h; rfl) | (obtain ⟨_, _, _, _, _, _, _, _, _, _, _, _, _, rfl, _⟩ := h; rfl) | (obtain ⟨_, _, _, _, _, _, _, _, _, _, _, _, _, _, rfl, _⟩ := h; rfl) | (obtain ⟨_, _, _, _, _, _, _, _, _, _, _, _, _, _, _, rfl, _⟩ := h; rfl)) (fun cdv A outer s H E hr => ⟨body_stretches, (b3_cons (m3_set 3 (p3_cal C_determinant hr (by rfl) (c3_val (r3_name 0) c3_nil)) sc_stretches.nd)
      (b3_cons (m3_set 4 (p3_cal C_turned_back hr (by rfl) (c3_val (r3_name 0) c3_nil)) sc_stretches.nd)
      (b3_fz 4 (b3_cons (m3_set 5 (p3_lst (pa3_cons (p3 (r3 (p3_mul (r3 (p3_lst (pa3_cons (p3 r3_int) pa3_nil))) (r3_len (by rfl) B_len (r3_name 0))))) pa3_nil)) sc_stretches.nd)
      (b3_fz 5 (b3_cons (m3_for PassesOwn.never rfl (i3_range3 (by rfl) B_range (r3_sub (r3_len (by rfl) B_len (r3_name 0)) r3_int) r3_int (r3_neg r3_int)) (g3_name 6 sc_stretches.nd) (b3_cons (m3_asg (p3 (r3 (p3_cal C_multiples hr (by rfl) (c3_val (r3_ix (r3_name 4) (r3_name 6)) (c3_val (r3_name 3) (c3_val (r3_name 1) (c3_val (r3_name 2) c3_nil))))))) (g3_tup (n := 2) rfl (gs3_cons (g3_name 7 sc_stretches.nd) (gs3_cons (g3_name 8 sc_stretches.nd) gs3_nil))))
      (b3_cons (m3_set 5 (p3_cal C_put_to hr (by rfl) (c3_val (r3_name 5) (c3_val (r3_ix (r3_name 0) (r3_name 6)) (c3_val (r3_name 7) (c3_val (r3_name 8) c3_nil))))) sc_stretches.nd) (b3_fz 5 b3_nil))))
      (b3_cons (m3_set 9 (p3_lst pa3_nil) sc_stretches.nd)
      (b3_cons (m3_for PassesOwn.never rfl (i3_seq (r3_name 5)) (g3_name 10 sc_stretches.nd) (b3_cons (m3_set 11 (p3_cal C_stretch_in hr (by rfl) (c3_val (r3_name 10) (c3_val (r3_ix (r3_name 0) r3_int) (c3_val (r3_name 1) (c3_val (r3_name 2) c3_nil))))) sc_stretches.nd)
      (b3_one (m3_if (t3_notN (r3_name 11) r3_none) (b3_one (m3_expr (p3 (r3 (p3_append 9 (p3_tup (pa3_cons (p3_move 10) (pa3_cons (p3 (r3_ix (r3_name 11) r3_int)) (pa3_cons (p3 (r3_ix (r3_name 11) r3_int)) pa3_nil))))))))) b3_nil))))
      (b3_one (m3_ret (p3_move 9))))))))))), v_stretches⟩)
theorem ok_all_within {f : Addr} {fd : FuncData} {k : Nat} (F : Fun K "all_within" "all_within" s_all_within f fd) (B_range : mg "range" = none) (B_tuple : mg "tuple" = none) (C_stretches : Cal P w K mg base "stretches" k ["rows", "lows", "highs"] sp_stretches) (C_taken_off : Cal P w K mg base "taken_off" k ["row", "many", "other"] sp_taken_off) : FnOk P w K mg base CX0 (k + 1) f fd ["rows", "lows", "highs"] (lift K sp_all_within) :=
  ok3 F sc_all_within (fun ts Q E h => by first | (obtain ⟨rfl, _⟩ := h; rfl) | (obtain ⟨_, rfl, _⟩ := h; rfl) | (obtain ⟨_, _, rfl, _⟩ := h; rfl) | (obtain ⟨_, _, _, rfl, _⟩ := h; rfl) | (obtain ⟨_, _, _, _, rfl, _⟩ := h; rfl) | (obtain ⟨_, _, _, _, _, rfl, _⟩ := h; rfl) | (obtain ⟨_, _, _, _, _, _, rfl, _⟩ := h; rfl) | (obtain ⟨_, _, _, _, _, _, _, rfl, _⟩ := h; rfl) | (obtain ⟨_, _, _, _, _, _, _, _, rfl, _⟩ := h; rfl) | (obtain ⟨_, _, _, _, _, _, _, _, _, rfl, _⟩ := h; rfl) | (obtain ⟨_, _, _, _, _, _, _, _, _, _, rfl, _⟩ := h; rfl) | (obtain ⟨_, _, _, _, _, _, _, _, _, _, _, rfl, _⟩ := h; rfl) | (obtain ⟨_, _, _, _, _, _, _, _, _, _, _, _, rfl, _⟩ := h; rfl) | (obtain ⟨_, _, _, _, _, _, _, _, _, _, _, _, _, rfl, _⟩ := h; rfl) | (obtain ⟨_, _, _, _, _, _, _, _, _, _, _, _, _, _, rfl, _⟩ := h; rfl) | (obtain ⟨_, _, _, _, _, _, _, _, _, _, _, _, _, _, _, rfl, _⟩ := h; rfl)) (fun cdv A outer s H E hr => ⟨body_all_within, (b3_cons (m3_set 3 (p3_lst pa3_nil) sc_all_within.nd)
      (b3_cons (m3_for PassesOwn.never rfl (i3_seq (r3 (p3_cal C_stretches hr (by rfl) (c3_val (r3_name 0) (c3_val (r3_name 1) (c3_val (r3_name 2) c3_nil)))))) (g3_tup (n := 3) rfl (gs3_cons (g3_name 4 sc_all_within.nd) (gs3_cons (g3_name 5 sc_all_within.nd) (gs3_cons (g3_name 6 sc_all_within.nd) gs3_nil)))) (b3_one (m3_for PassesOwn.never rfl (i3_range2 (by rfl) B_range (r3_name 5) (r3_add (r3_name 6) r3_int)) (g3_name 7 sc_all_within.nd) (b3_one (m3_expr (p3_append 3 (p3 (r3_tuple (by rfl) B_tuple (r3 (p3_cal C_taken_off hr (by rfl) (c3_val (r3_name 4) (c3_val (r3_sub r3_int (r3_name 7)) (c3_val (r3_ix (r3_name 0) r3_int) c3_nil)))))))))))))
      (b3_one (m3_ret (p3_move 3))))), v_all_within⟩)
theorem ok_cut_by {f : Addr} {fd : FuncData} {k : Nat} (F : Fun K "cut_by" "cut_by" s_cut_by f fd) (B_range : mg "range" = none) (C_taken_off : Cal P w K mg base "taken_off" k ["row", "many", "other"] sp_taken_off) : FnOk P w K mg base CX0 (k + 1) f fd ["rows", "shares", "spans", "at", "place"] (lift K sp_cut_by) :=
  ok3 F sc_cut_by (fun ts Q E h => by first | (obtain ⟨rfl, _⟩ := h; rfl) | (obtain ⟨_, rfl, _⟩ := h; rfl) | (obtain ⟨_, _, rfl, _⟩ := h; rfl) | (obtain ⟨_, _, _, rfl, _⟩ := h; rfl) | (obtain ⟨_, _, _, _, rfl, _⟩ := h; rfl) | (obtain ⟨_, _, _, _, _, rfl, _⟩ := h; rfl) | (obtain ⟨_, _, _, _, _, _, rfl, _⟩ := h; rfl) | (obtain ⟨_, _, _, _, _, _, _, rfl, _⟩ := h; rfl) | (obtain ⟨_, _, _, _, _, _, _, _, rfl, _⟩ := h; rfl) | (obtain ⟨_, _, _, _, _, _, _, _, _, rfl, _⟩ := h; rfl) | (obtain ⟨_, _, _, _, _, _, _, _, _, _, rfl, _⟩ := h; rfl) | (obtain ⟨_, _, _, _, _, _, _, _, _, _, _, rfl, _⟩ := h; rfl) | (obtain ⟨_, _, _, _, _, _, _, _, _, _, _, _, rfl, _⟩ := h; rfl) | (obtain ⟨_, _, _, _, _, _, _, _, _, _, _, _, _, rfl, _⟩ := h; rfl) | (obtain ⟨_, _, _, _, _, _, _, _, _, _, _, _, _, _, rfl, _⟩ := h; rfl) | (obtain ⟨_, _, _, _, _, _, _, _, _, _, _, _, _, _, _, rfl, _⟩ := h; rfl)) (fun cdv A outer s H E hr => ⟨body_cut_by, (b3_cons (m3_set 5 (p3 (r3_fdiv (r3_add (r3_mul r3_int (r3_ix (r3_ix (r3_name 1) (r3_name 3)) (r3_name 4))) (r3_ix (r3_name 2) (r3_add (r3_name 4) r3_int))) (r3_mul r3_int (r3_ix (r3_name 2) (r3_add (r3_name 4) r3_int))))) sc_cut_by.nd)
      (b3_one (m3_if (t3_neI (r3_name 5) r3_int) (b3_cons (m3_asg (p3 (r3 (p3_cal C_taken_off hr (by rfl) (c3_val (r3_ix (r3_name 0) (r3_name 3)) (c3_val (r3_name 5) (c3_val (r3_ix (r3_name 0) (r3_name 4)) c3_nil)))))) (g3_sub 0 (r3_name 3)))
      (b3_one (m3_for PassesOwn.never rfl (i3_range1 (by rfl) B_range (r3_add (r3_name 4) r3_int)) (g3_name 6 sc_cut_by.nd) (b3_one (m3_augS2 1 ip_sub (r3_name 3) (r3_name 6) (r3_mul (r3_name 5) (r3_ix (r3_ix (r3_name 1) (r3_name 4)) (r3_name 6)))))))) b3_nil))), v_cut_by⟩)
theorem ok_exchanged {f : Addr} {fd : FuncData} {k : Nat} (F : Fun K "exchanged" "exchanged" s_exchanged f fd) (B_len : mg "len" = none) (B_range : mg "range" = none) : FnOk P w K mg base CX0 (k + 1) f fd ["rows", "shares", "spans", "at"] (lift K sp_exchanged) :=
  ok3 F sc_exchanged (fun ts Q E h => by first | (obtain ⟨rfl, _⟩ := h; rfl) | (obtain ⟨_, rfl, _⟩ := h; rfl) | (obtain ⟨_, _, rfl, _⟩ := h; rfl) | (obtain ⟨_, _, _, rfl, _⟩ := h; rfl) | (obtain ⟨_, _, _, _, rfl, _⟩ := h; rfl) | (obtain ⟨_, _, _, _, _, rfl, _⟩ := h; rfl) | (obtain ⟨_, _, _, _, _, _, rfl, _⟩ := h; rfl) | (obtain ⟨_, _, _, _, _, _, _, rfl, _⟩ := h; rfl) | (obtain ⟨_, _, _, _, _, _, _, _, rfl, _⟩ := h; rfl) | (obtain ⟨_, _, _, _, _, _, _, _, _, rfl, _⟩ := h; rfl) | (obtain ⟨_, _, _, _, _, _, _, _, _, _, rfl, _⟩ := h; rfl) | (obtain ⟨_, _, _, _, _, _, _, _, _, _, _, rfl, _⟩ := h; rfl) | (obtain ⟨_, _, _, _, _, _, _, _, _, _, _, _, rfl, _⟩ := h; rfl) | (obtain ⟨_, _, _, _, _, _, _, _, _, _, _, _, _, rfl, _⟩ := h; rfl) | (obtain ⟨_, _, _, _, _, _, _, _, _, _, _, _, _, _, rfl, _⟩ := h; rfl) | (obtain ⟨_, _, _, _, _, _, _, _, _, _, _, _, _, _, _, rfl, _⟩ := h; rfl)) (fun cdv A outer s H E hr => ⟨body_exchanged, (b3_cons (m3_asg (p3_tup (pa3_cons (p3 (r3_ix (r3_name 0) (r3_name 3))) (pa3_cons (p3 (r3_ix (r3_name 0) (r3_sub (r3_name 3) r3_int))) pa3_nil))) (g3_tup (n := 2) rfl (gs3_cons (g3_sub 0 (r3_sub (r3_name 3) r3_int)) (gs3_cons (g3_sub 0 (r3_name 3)) gs3_nil))))
      (b3_cons (m3_set 4 (p3 (r3_ix (r3_ix (r3_name 1) (r3_name 3)) (r3_sub (r3_name 3) r3_int))) sc_exchanged.nd)
      (b3_cons (m3_for PassesOwn.never rfl (i3_range1 (by rfl) B_range (r3_sub (r3_name 3) r3_int)) (g3_name 5 sc_exchanged.nd) (b3_one (m3_asg (p3_tup (pa3_cons (p3 (r3_ix (r3_ix (r3_name 1) (r3_name 3)) (r3_name 5))) (pa3_cons (p3 (r3_ix (r3_ix (r3_name 1) (r3_sub (r3_name 3) r3_int)) (r3_name 5))) pa3_nil))) (g3_tup (n := 2) rfl (gs3_cons (g3_sub2 1 (r3_sub (r3_name 3) r3_int) (r3_name 5)) (gs3_cons (g3_sub2 1 (r3_name 3) (r3_name 5)) gs3_nil))))))
      (b3_cons (m3_set 6 (p3 (r3_fdiv (r3_add (r3_mul (r3_ix (r3_name 2) (r3_sub (r3_name 3) r3_int)) (r3_ix (r3_name 2) (r3_add (r3_name 3) r3_int))) (r3_mul (r3_name 4) (r3_name 4))) (r3_ix (r3_name 2) (r3_name 3)))) sc_exchanged.nd)
      (b3_cons (m3_for PassesOwn.never rfl (i3_range2 (by rfl) B_range (r3_add (r3_name 3) r3_int) (r3_len (by rfl) B_len (r3_name 0))) (g3_name 7 sc_exchanged.nd) (b3_cons (m3_out 8 1 (r3_name 7) sc_exchanged.nd)
      (b3_cons (m3_set 9 (p3 (r3_ix (r3_name 8) (r3_name 3))) sc_exchanged.nd)
      (b3_cons (m3_asg (p3 (r3_fdiv (r3_sub (r3_mul (r3_ix (r3_name 2) (r3_add (r3_name 3) r3_int)) (r3_ix (r3_name 8) (r3_sub (r3_name 3) r3_int))) (r3_mul (r3_name 4) (r3_name 9))) (r3_ix (r3_name 2) (r3_name 3)))) (g3_sub 8 (r3_name 3)))
      (b3_cons (m3_asg (p3 (r3_fdiv (r3_add (r3_mul (r3_name 6) (r3_name 9)) (r3_mul (r3_name 4) (r3_ix (r3_name 8) (r3_name 3)))) (r3_ix (r3_name 2) (r3_add (r3_name 3) r3_int)))) (g3_sub 8 (r3_sub (r3_name 3) r3_int))) (b3_back 1 8 b3_nil))))))
      (b3_cons (m3_asg (p3_move 6) (g3_sub 2 (r3_name 3)))
      (b3_one (m3_asg (p3_move 6) (g3_sub2 1 (r3_sub (r3_name 3) r3_int) (r3_sub (r3_name 3) r3_int)))))))))), v_exchanged⟩)
theorem ok_product_of {f : Addr} {fd : FuncData} {k : Nat} (F : Fun K "product_of" "product_of" s_product_of f fd) (B_sum : mg "sum" = none) (B_zip : mg "zip" = none) : FnOk P w K mg base CX0 (k + 1) f fd ["one", "other"] (lift K sp_product_of) :=
  ok3 F sc_product_of (fun ts Q E h => by first | (obtain ⟨rfl, _⟩ := h; rfl) | (obtain ⟨_, rfl, _⟩ := h; rfl) | (obtain ⟨_, _, rfl, _⟩ := h; rfl) | (obtain ⟨_, _, _, rfl, _⟩ := h; rfl) | (obtain ⟨_, _, _, _, rfl, _⟩ := h; rfl) | (obtain ⟨_, _, _, _, _, rfl, _⟩ := h; rfl) | (obtain ⟨_, _, _, _, _, _, rfl, _⟩ := h; rfl) | (obtain ⟨_, _, _, _, _, _, _, rfl, _⟩ := h; rfl) | (obtain ⟨_, _, _, _, _, _, _, _, rfl, _⟩ := h; rfl) | (obtain ⟨_, _, _, _, _, _, _, _, _, rfl, _⟩ := h; rfl) | (obtain ⟨_, _, _, _, _, _, _, _, _, _, rfl, _⟩ := h; rfl) | (obtain ⟨_, _, _, _, _, _, _, _, _, _, _, rfl, _⟩ := h; rfl) | (obtain ⟨_, _, _, _, _, _, _, _, _, _, _, _, rfl, _⟩ := h; rfl) | (obtain ⟨_, _, _, _, _, _, _, _, _, _, _, _, _, rfl, _⟩ := h; rfl) | (obtain ⟨_, _, _, _, _, _, _, _, _, _, _, _, _, _, rfl, _⟩ := h; rfl) | (obtain ⟨_, _, _, _, _, _, _, _, _, _, _, _, _, _, _, rfl, _⟩ := h; rfl)) (fun cdv A outer s H E hr => ⟨body_product_of, (b3_one (m3_ret (p3 (r3_sum rfl (by rfl) B_sum (r3 (p3_lc (own := [("left", 2), ("right", 3)]) (js := [2, 3]) rfl sc_product_of.nd (i3_zipX (by rfl) B_zip (r3_name 0) (r3_name 1)) (blkOk_by (N := N_product_of) (sc := defScope s_product_of) (by decide +kernel)) (by decide) (fun _ _ _ _ _ => (g3_tup (n := 2) rfl (gs3_cons (g3_name 2 sc_product_of.nd) (gs3_cons (g3_name 3 sc_product_of.nd) gs3_nil)))) (fun _ _ _ _ _ => ts3_nil) (fun _ _ _ _ _ => (p3 (r3_mul (r3_name 2) (r3_name 3)))))))))), v_product_of⟩)
theorem ok_shares_of {f : Addr} {fd : FuncData} {k : Nat} (F : Fun K "shares_of" "shares_of" s_shares_of f fd) (B_enumerate : mg "enumerate" = none) (B_range : mg "range" = none) (C_product_of : Cal P w K mg base "product_of" k ["one", "other"] sp_product_of) : FnOk P w K mg base CX0 (k + 1) f fd ["rows"] (lift K sp_shares_of) :=
  ok3 F sc_shares_of (fun ts Q E h => by first | (obtain ⟨rfl, _⟩ := h; rfl) | (obtain ⟨_, rfl, _⟩ := h; rfl) | (obtain ⟨_, _, rfl, _⟩ := h; rfl) | (obtain ⟨_, _, _, rfl, _⟩ := h; rfl) | (obtain ⟨_, _, _, _, rfl, _⟩ := h; rfl) | (obtain ⟨_, _, _, _, _, rfl, _⟩ := h; rfl) | (obtain ⟨_, _, _, _, _, _, rfl, _⟩ := h; rfl) | (obtain ⟨_, _, _, _, _, _, _, rfl, _⟩ := h; rfl) | (obtain ⟨_, _, _, _, _, _, _, _, rfl, _⟩ := h; rfl) | (obtain ⟨_, _, _, _, _, _, _, _, _, rfl, _⟩ := h; rfl) | (obtain ⟨_, _, _, _, _, _, _, _, _, _, rfl, _⟩ := h; rfl) | (obtain ⟨_, _, _, _, _, _, _, _, _, _, _, rfl, _⟩ := h; rfl) | (obtain ⟨_, _, _, _, _, _, _, _, _, _, _, _, rfl, _⟩ := h; rfl) | (obtain ⟨_, _, _, _, _, _, _, _, _, _, _, _, _, rfl, _⟩ := h; rfl) | (obtain ⟨_, _, _, _, _, _, _, _, _, _, _, _, _, _, rfl, _⟩ := h; rfl) | (obtain ⟨_, _, _, _, _, _, _, _, _, _, _, _, _, _, _, rfl, _⟩ := h; rfl)) (fun cdv A outer s H E hr => ⟨body_shares_of, (b3_cons (m3_set 1 (p3_lst (pa3_cons (p3 r3_int) pa3_nil)) sc_shares_of.nd)
      (b3_cons (m3_set 2 (p3_lst pa3_nil) sc_shares_of.nd)
      (b3_cons (m3_for PassesOwn.never rfl (i3_enumX (by rfl) B_enumerate (r3_name 0)) (g3_tup (n := 2) rfl (gs3_cons (g3_name 3 sc_shares_of.nd) (gs3_cons (g3_name 4 sc_shares_of.nd) gs3_nil))) (b3_cons (m3_set 5 (p3_lst pa3_nil) sc_shares_of.nd)
      (b3_cons (m3_for PassesOwn.never rfl (i3_range1 (by rfl) B_range (r3_add (r3_name 3) r3_int)) (g3_name 6 sc_shares_of.nd) (b3_cons (m3_set 7 (p3_cal C_product_of hr (by rfl) (c3_val (r3_name 4) (c3_val (r3_ix (r3_name 0) (r3_name 6)) c3_nil))) sc_shares_of.nd)
      (b3_cons (m3_for PassesOwn.never rfl (i3_range1 (by rfl) B_range (r3_name 6)) (g3_name 8 sc_shares_of.nd) (b3_cons (m3_set 9 (p3_bor (p3 (r3_ix (r3_ix (r3 (p3_add (r3_name 2) (r3 (p3_lst (pa3_cons (p3_move 5) pa3_nil))))) (r3_name 6)) (r3_name 8)))) sc_shares_of.nd)
      (b3_one (m3_set 7 (p3 (r3_fdiv (r3_sub (r3_mul (r3_ix (r3_name 1) (r3_add (r3_name 8) r3_int)) (r3_name 7)) (r3_mul (r3_ix (r3_name 5) (r3_name 8)) (r3_name 9))) (r3_ix (r3_name 1) (r3_name 8)))) sc_shares_of.nd))))
      (b3_one (m3_expr (p3_append 5 (p3_move 7)))))))
      (b3_cons (m3_expr (p3_append 1 (p3 (r3_ix (r3_name 5) (r3_name 3)))))
      (b3_one (m3_expr (p3_append 2 (p3_move 5))))))))
      (b3_one (m3_ret (p3_tup (pa3_cons (p3_move 2) (pa3_cons (p3_move 1) pa3_nil)))))))), v_shares_of⟩)
theorem ok_led_down {f : Addr} {fd : FuncData} {k : Nat} (F : Fun K "led_down" "led_down" s_led_down f fd) (B_len : mg "len" = none) (B_list : mg "list" = none) (B_max : mg "max" = none) (B_range : mg "range" = none) (C_cut_by : Cal P w K mg base "cut_by" k ["rows", "shares", "spans", "at", "place"] sp_cut_by) (C_exchanged : Cal P w K mg base "exchanged" k ["rows", "shares", "spans", "at"] sp_exchanged) (C_shares_of : Cal P w K mg base "shares_of" k ["rows"] sp_shares_of) : FnOk P w K mg base CX0 (k + 1) f fd ["rows"] (lift K sp_led_down) :=
  ok3 F sc_led_down (fun ts Q E h => by first | (obtain ⟨rfl, _⟩ := h; rfl) | (obtain ⟨_, rfl, _⟩ := h; rfl) | (obtain ⟨_, _, rfl, _⟩ := h; rfl) | (obtain ⟨_, _, _, rfl, _⟩ := h; rfl) | (obtain ⟨_, _, _, _, rfl, _⟩ := h; rfl) | (obtain ⟨_, _, _, _, _, rfl, _⟩ := h; rfl) | (obtain ⟨_, _, _, _, _, _, rfl, _⟩ := h; rfl) | (obtain ⟨_, _, _, _, _, _, _, rfl, _⟩ := h; rfl) | (obtain ⟨_, _, _, _, _, _, _, _, rfl, _⟩ := h; rfl) | (obtain ⟨_, _, _, _, _, _, _, _, _, rfl, _⟩ := h; rfl) | (obtain ⟨_, _, _, _, _, _, _, _, _, _, rfl, _⟩ := h; rfl) | (obtain ⟨_, _, _, _, _, _, _, _, _, _, _, rfl, _⟩ := h; rfl) | (obtain ⟨_, _, _, _, _, _, _, _, _, _, _, _, rfl, _⟩ := h; rfl) | (obtain ⟨_, _, _, _, _, _, _, _, _, _, _, _, _, rfl, _⟩ := h; rfl) | (obtain ⟨_, _, _, _, _, _, _, _, _, _, _, _, _, _, rfl, _⟩ := h; rfl) | (obtain ⟨_, _, _, _, _, _, _, _, _, _, _, _, _, _, _, rfl, _⟩ := h; rfl)) (fun cdv A outer s H E hr => ⟨body_led_down, (b3_cons (m3_setLc 0 (own := [("row", 6)]) (js := [6]) rfl sc_led_down.nd (i3_seq (r3_name 0)) (blkOk_by (N := N_led_down) (sc := defScope s_led_down) (by decide +kernel)) (by decide) (fun _ _ _ _ _ => (g3_name 6 sc_led_down.nd)) (fun _ _ _ _ _ => ts3_nil) (fun _ _ _ _ _ => (p3 (r3 (p3_list (by rfl) B_list (r3_name 6))))))
      (b3_cons (m3_asg (p3_bor (p3_cal C_shares_of hr (by rfl) (c3_val (r3_name 0) c3_nil))) (g3_tup (n := 2) rfl (gs3_cons (g3_name 1 sc_led_down.nd) (gs3_cons (g3_name 2 sc_led_down.nd) gs3_nil))))
      (b3_cons (m3_set 3 (p3 r3_int) sc_led_down.nd)
      (b3_cons (m3_while PassesOwn.never (t3_lt (r3_name 3) (r3_len (by rfl) B_len (r3_name 0))) (b3_cons (m3_expr (p3 (r3 (p3_cal C_cut_by hr (by rfl) (c3_io 0 (c3_io 1 (c3_io 2 (c3_val (r3_name 3) (c3_val (r3_sub (r3_name 3) r3_int) c3_nil)))))))))
      (b3_cons (m3_set 4 (p3 (r3_ix (r3_ix (r3_name 1) (r3_name 3)) (r3_sub (r3_name 3) r3_int))) sc_led_down.nd)
      (b3_one (m3_if (t3_lt (r3_mul r3_int (r3_add (r3_mul (r3_ix (r3_name 2) (r3_add (r3_name 3) r3_int)) (r3_ix (r3_name 2) (r3_sub (r3_name 3) r3_int))) (r3_mul (r3_name 4) (r3_name 4)))) (r3_mul (r3_mul r3_int (r3_ix (r3_name 2) (r3_name 3))) (r3_ix (r3_name 2) (r3_name 3)))) (b3_cons (m3_expr (p3 (r3 (p3_cal C_exchanged hr (by rfl) (c3_io 0 (c3_io 1 (c3_io 2 (c3_val (r3_name 3) c3_nil))))))))
      (b3_one (m3_set 3 (p3 (r3_max2 rfl (by rfl) B_max r3_int (r3_sub (r3_name 3) r3_int))) sc_led_down.nd))) (b3_cons (m3_for PassesOwn.never rfl (i3_range3 (by rfl) B_range (r3_sub (r3_name 3) r3_int) (r3_neg r3_int) (r3_neg r3_int)) (g3_name 5 sc_led_down.nd) (b3_one (m3_expr (p3 (r3 (p3_cal C_cut_by hr (by rfl) (c3_io 0 (c3_io 1 (c3_io 2 (c3_val (r3_name 3) (c3_val (r3_name 5) c3_nil)))))))))))
      (b3_one (m3_aug 3 iop_add3 r3_int sc_led_down.nd))))))))
      (b3_one (m3_ret (p3_move 0))))))), v_led_down⟩)
theorem ok_size_of {f : Addr} {fd : FuncData} {k : Nat} (F : Fun K "size_of" "size_of" s_size_of f fd) (B_abs : mg "abs" = none) (B_max : mg "max" = none) : FnOk P w K mg base CX0 (k + 1) f fd ["row"] (lift K sp_size_of) :=
  ok3 F sc_size_of (fun ts Q E h => by first | (obtain ⟨rfl, _⟩ := h; rfl) | (obtain ⟨_, rfl, _⟩ := h; rfl) | (obtain ⟨_, _, rfl, _⟩ := h; rfl) | (obtain ⟨_, _, _, rfl, _⟩ := h; rfl) | (obtain ⟨_, _, _, _, rfl, _⟩ := h; rfl) | (obtain ⟨_, _, _, _, _, rfl, _⟩ := h; rfl) | (obtain ⟨_, _, _, _, _, _, rfl, _⟩ := h; rfl) | (obtain ⟨_, _, _, _, _, _, _, rfl, _⟩ := h; rfl) | (obtain ⟨_, _, _, _, _, _, _, _, rfl, _⟩ := h; rfl) | (obtain ⟨_, _, _, _, _, _, _, _, _, rfl, _⟩ := h; rfl) | (obtain ⟨_, _, _, _, _, _, _, _, _, _, rfl, _⟩ := h; rfl) | (obtain ⟨_, _, _, _, _, _, _, _, _, _, _, rfl, _⟩ := h; rfl) | (obtain ⟨_, _, _, _, _, _, _, _, _, _, _, _, rfl, _⟩ := h; rfl) | (obtain ⟨_, _, _, _, _, _, _, _, _, _, _, _, _, rfl, _⟩ := h; rfl) | (obtain ⟨_, _, _, _, _, _, _, _, _, _, _, _, _, _, rfl, _⟩ := h; rfl) | (obtain ⟨_, _, _, _, _, _, _, _, _, _, _, _, _, _, _, rfl, _⟩ := h; rfl)) (fun cdv A outer s H E hr => ⟨body_size_of, (b3_one (m3_ret (p3 (r3_maxL rfl (by rfl) B_max (r3 (p3_lc (own := [("number", 1)]) (js := [1]) rfl sc_size_of.nd (i3_seq (r3_name 0)) (blkOk_by (N := N_size_of) (sc := defScope s_size_of) (by decide +kernel)) (by decide) (fun _ _ _ _ _ => (g3_name 1 sc_size_of.nd)) (fun _ _ _ _ _ => ts3_nil) (fun _ _ _ _ _ => (p3 (r3_abs (by rfl) B_abs (r3_name 1)))))))))), v_size_of⟩)
theorem ok_shortest_2 {f : Addr} {fd : FuncData} {k : Nat} (F : Fun K "shortest" "shortest" s_shortest_2 f fd) (B_len : mg "len" = none) (B_min : mg "min" = none) (C_all_within : Cal P w K mg base "all_within" k ["rows", "lows", "highs"] sp_all_within) (C_led_down : Cal P w K mg base "led_down" k ["rows"] sp_led_down) (C_need_lattice_x : CalX P w K mg base "need_lattice" k ["rows"] (sp_need_lattice_x (cOf mg))) (C_size_of : Cal P w K mg base "size_of_short" k ["row"] sp_size_of) : FnOk P w K mg base CX0 (k + 1) f fd ["rows"] (lift K sp_shortest_2) :=
  ok3 F sc_shortest_2 (fun ts Q E h => by first | (obtain ⟨rfl, _⟩ := h; rfl) | (obtain ⟨_, rfl, _⟩ := h; rfl) | (obtain ⟨_, _, rfl, _⟩ := h; rfl) | (obtain ⟨_, _, _, rfl, _⟩ := h; rfl) | (obtain ⟨_, _, _, _, rfl, _⟩ := h; rfl) | (obtain ⟨_, _, _, _, _, rfl, _⟩ := h; rfl) | (obtain ⟨_, _, _, _, _, _, rfl, _⟩ := h; rfl) | (obtain ⟨_, _, _, _, _, _, _, rfl, _⟩ := h; rfl) | (obtain ⟨_, _, _, _, _, _, _, _, rfl, _⟩ := h; rfl) | (obtain ⟨_, _, _, _, _, _, _, _, _, rfl, _⟩ := h; rfl) | (obtain ⟨_, _, _, _, _, _, _, _, _, _, rfl, _⟩ := h; rfl) | (obtain ⟨_, _, _, _, _, _, _, _, _, _, _, rfl, _⟩ := h; rfl) | (obtain ⟨_, _, _, _, _, _, _, _, _, _, _, _, rfl, _⟩ := h; rfl) | (obtain ⟨_, _, _, _, _, _, _, _, _, _, _, _, _, rfl, _⟩ := h; rfl) | (obtain ⟨_, _, _, _, _, _, _, _, _, _, _, _, _, _, rfl, _⟩ := h; rfl) | (obtain ⟨_, _, _, _, _, _, _, _, _, _, _, _, _, _, _, rfl, _⟩ := h; rfl)) (fun cdv A outer s H E hr => ⟨body_shortest_2, (b3_cons (m3_expr (p3_calN C_need_lattice_x (wk_need_lattice _) hr (by rfl) (c3_val (r3_name 0) c3_nil)))
      (b3_cons (m3_set 0 (p3_cal C_led_down hr (by rfl) (c3_val (r3_name 0) c3_nil)) sc_shortest_2.nd)
      (b3_fz 0 (b3_cons (m3_set 1 (p3 (r3_minL rfl (by rfl) B_min (r3 (p3_lc (own := [("row", 3)]) (js := [3]) rfl sc_shortest_2.nd (i3_seq (r3_name 0)) (blkOk_by (N := N_shortest_2) (sc := defScope s_shortest_2) (by decide +kernel)) (by decide) (fun _ _ _ _ _ => (g3_name 3 sc_shortest_2.nd)) (fun _ _ _ _ _ => ts3_nil) (fun _ _ _ _ _ => (p3_cal C_size_of hr (by rfl) (c3_val (r3_name 3) c3_nil))))))) sc_shortest_2.nd)
      (b3_cons (m3_set 2 (p3_cal C_all_within hr (by rfl) (c3_val (r3_name 0) (c3_val (r3 (p3_mul (r3 (p3_lst (pa3_cons (p3 (r3_sub r3_int (r3_name 1))) pa3_nil))) (r3_len (by rfl) B_len (r3_name 0)))) (c3_val (r3 (p3_mul (r3 (p3_lst (pa3_cons (p3_move 1) pa3_nil))) (r3_len (by rfl) B_len (r3_name 0)))) c3_nil)))) sc_shortest_2.nd)
      (b3_fz 2 (b3_one (m3_ret (p3 (r3_ix (r3_minA (Int × PySem.W.Tup Int) rfl hr.units (by rfl) B_min (r3 (p3_lc (own := [("row", 3)]) (js := [3]) rfl sc_shortest_2.nd (i3_seq (r3_name 2)) (blkOk_by (N := N_shortest_2) (sc := defScope s_shortest_2) (by decide +kernel)) (by decide) (fun _ _ _ _ _ => (g3_name 3 sc_shortest_2.nd)) (fun _ _ _ _ _ => (ts3_one (t3_gt (r3 (p3_cal C_size_of hr (by rfl) (c3_val (r3_name 3) c3_nil))) r3_int))) (fun _ _ _ _ _ => (p3_tup (pa3_cons (p3_cal C_size_of hr (by rfl) (c3_val (r3_name 3) c3_nil)) (pa3_cons (p3_move 3) pa3_nil))))))) r3_int)))))))))), v_shortest_2⟩)
theorem ok_size_of_b {f : Addr} {fd : FuncData} {k : Nat} (F : Fun K "size_of" "size_of" s_size_of_b f fd) (B_abs : mg "abs" = none) (B_max : mg "max" = none) : FnOk P w K mg base CX0 (k + 1) f fd ["row"] (lift K sp_size_of_b) :=
  ok3 F sc_size_of_b (fun ts Q E h => by first | (obtain ⟨rfl, _⟩ := h; rfl) | (obtain ⟨_, rfl, _⟩ := h; rfl) | (obtain ⟨_, _, rfl, _⟩ := h; rfl) | (obtain ⟨_, _, _, rfl, _⟩ := h; rfl) | (obtain ⟨_, _, _, _, rfl, _⟩ := h; rfl) | (obtain ⟨_, _, _, _, _, rfl, _⟩ := h; rfl) | (obtain ⟨_, _, _, _, _, _, rfl, _⟩ := h; rfl) | (obtain ⟨_, _, _, _, _, _, _, rfl, _⟩ := h; rfl) | (obtain ⟨_, _, _, _, _, _, _, _, rfl, _⟩ := h; rfl) | (obtain ⟨_, _, _, _, _, _, _, _, _, rfl, _⟩ := h; rfl) | (obtain ⟨_, _, _, _, _, _, _, _, _, _, rfl, _⟩ := h; rfl) | (obtain ⟨_, _, _, _, _, _, _, _, _, _, _, rfl, _⟩ := h; rfl) | (obtain ⟨_, _, _, _, _, _, _, _, _, _, _, _, rfl, _⟩ := h; rfl) | (obtain ⟨_, _, _, _, _, _, _, _, _, _, _, _, _, rfl, _⟩ := h; rfl) | (obtain ⟨_, _, _, _, _, _, _, _, _, _, _, _, _, _, rfl, _⟩ := h; rfl) | (obtain ⟨_, _, _, _, _, _, _, _, _, _, _, _, _, _, _, rfl, _⟩ := h; rfl)) (fun cdv A outer s H E hr => ⟨body_size_of_b, (b3_one (m3_ret (p3 (r3_maxL rfl (by rfl) B_max (r3 (p3_lc (own := [("number", 1)]) (js := [1]) rfl sc_size_of_b.nd (i3_seq (r3_name 0)) (blkOk_by (N := N_size_of_b) (sc := defScope s_size_of_b) (by decide +kernel)) (by decide) (fun _ _ _ _ _ => (g3_name 1 sc_size_of_b.nd)) (fun _ _ _ _ _ => ts3_nil) (fun _ _ _ _ _ => (p3 (r3_abs (by rfl) B_abs (r3_name 1)))))))))), v_size_of_b⟩)
theorem ok_least_paper_x {f : Addr} {fd : FuncData} {k : Nat} (F : Fun K "least_paper" "least_paper" s_least_paper_x f fd) (C_least_bounds_x : CalX P w K mg base "least_bounds" k ["rows", "size"] (sp_least_bounds_x (cOf mg))) (C_measure_x : CalX P w K mg base "measure" k ["rows"] (sp_measure_x (cOf mg))) (C_shortest_2 : Cal P w K mg base "shortest" k ["rows"] sp_shortest_2) (C_size_of_b : Cal P w K mg base "size_of_papers" k ["row"] sp_size_of_b) : FnOk P w K mg base (L2.CX P w) (k + 1) f fd ["rows", "size"] (lift K (sp_least_paper_x (cOf mg))) :=
  ok3X F sc_least_paper_x (fun ts Q E h => by first | (obtain ⟨rfl, _⟩ := h; rfl) | (obtain ⟨_, rfl, _⟩ := h; rfl) | (obtain ⟨_, _, rfl, _⟩ := h; rfl) | (obtain ⟨_, _, _, rfl, _⟩ := h; rfl) | (obtain ⟨_, _, _, _, rfl, _⟩ := h; rfl) | (obtain ⟨_, _, _, _, _, rfl, _⟩ := h; rfl) | (obtain ⟨_, _, _, _, _, _, rfl, _⟩ := h; rfl) | (obtain ⟨_, _, _, _, _, _, _, rfl, _⟩ := h; rfl) | (obtain ⟨_, _, _, _, _, _, _, _, rfl, _⟩ := h; rfl) | (obtain ⟨_, _, _, _, _, _, _, _, _, rfl, _⟩ := h; rfl) | (obtain ⟨_, _, _, _, _, _, _, _, _, _, rfl, _⟩ := h; rfl) | (obtain ⟨_, _, _, _, _, _, _, _, _, _, _, rfl, _⟩ := h; rfl) | (obtain ⟨_, _, _, _, _, _, _, _, _, _, _, _, rfl, _⟩ := h; rfl) | (obtain ⟨_, _, _, _, _, _, _, _, _, _, _, _, _, rfl, _⟩ := h; rfl) | (obtain ⟨_, _, _, _, _, _, _, _, _, _, _, _, _, _, rfl, _⟩ := h; rfl) | (obtain ⟨_, _, _, _, _, _, _, _, _, _, _, _, _, _, _, rfl, _⟩ := h; rfl)) (fun cdv A outer s H E hr => ⟨body_least_paper_x (cOf mg), (b3_cons (m3_exprX (p3w_cal C_measure_x hr (by rfl) (c3_val (r3_name 0) c3_nil)))
      (b3_cons (m3_if (t3_lt (r3 (p3_cal C_size_of_b hr (by rfl) (c3_val (r3 (p3_cal C_shortest_2 hr (by rfl) (c3_val (r3_name 0) c3_nil))) c3_nil))) (r3_name 1)) (b3_nox (b3_one (m3_ret (p3 r3_none)))) b3_nil)
      (b3_one (m3_retX (p3w_cal C_least_bounds_x hr (by rfl) (c3_val (r3_name 0) (c3_val (r3_name 1) c3_nil))))))), v_least_paper_x (cOf mg)⟩)
theorem ok_how_many_sums {f : Addr} {fd : FuncData} {k : Nat} (F : Fun K "how_many_sums" "how_many_sums" s_how_many_sums f fd)  : FnOk P w K mg base CX0 (k + 1) f fd ["bounds"] (lift K sp_how_many_sums) :=
  ok3 F sc_how_many_sums (fun ts Q E h => by first | (obtain ⟨rfl, _⟩ := h; rfl) | (obtain ⟨_, rfl, _⟩ := h; rfl) | (obtain ⟨_, _, rfl, _⟩ := h; rfl) | (obtain ⟨_, _, _, rfl, _⟩ := h; rfl) | (obtain ⟨_, _, _, _, rfl, _⟩ := h; rfl) | (obtain ⟨_, _, _, _, _, rfl, _⟩ := h; rfl) | (obtain ⟨_, _, _, _, _, _, rfl, _⟩ := h; rfl) | (obtain ⟨_, _, _, _, _, _, _, rfl, _⟩ := h; rfl) | (obtain ⟨_, _, _, _, _, _, _, _, rfl, _⟩ := h; rfl) | (obtain ⟨_, _, _, _, _, _, _, _, _, rfl, _⟩ := h; rfl) | (obtain ⟨_, _, _, _, _, _, _, _, _, _, rfl, _⟩ := h; rfl) | (obtain ⟨_, _, _, _, _, _, _, _, _, _, _, rfl, _⟩ := h; rfl) | (obtain ⟨_, _, _, _, _, _, _, _, _, _, _, _, rfl, _⟩ := h; rfl) | (obtain ⟨_, _, _, _, _, _, _, _, _, _, _, _, _, rfl, _⟩ := h; rfl) | (obtain ⟨_, _, _, _, _, _, _, _, _, _, _, _, _, _, rfl, _⟩ := h; rfl) | (obtain ⟨_, _, _, _, _, _, _, _, _, _, _, _, _, _, _, rfl, _⟩ := h; rfl)) (fun cdv A outer s H E hr => ⟨body_how_many_sums, (b3_cons (m3_set 1 (p3 r3_int) sc_how_many_sums.nd)
      (b3_cons (m3_for PassesOwn.never rfl (i3_seq (r3_name 0)) (g3_name 2 sc_how_many_sums.nd) (b3_one (m3_set 1 (p3 (r3_mul (r3_name 1) (r3_add (r3_mul r3_int (r3_name 2)) r3_int))) sc_how_many_sums.nd)))
      (b3_one (m3_ret (p3_move 1))))), v_how_many_sums⟩)
theorem ok_added {f : Addr} {fd : FuncData} {k : Nat} (F : Fun K "added" "added" s_added f fd) (B_len : mg "len" = none) (B_range : mg "range" = none) (B_tuple : mg "tuple" = none) : FnOk P w K mg base CX0 (k + 1) f fd ["one", "row", "times"] (lift K sp_added) :=
  ok3 F sc_added (fun ts Q E h => by first | (obtain ⟨rfl, _⟩ := h; rfl) | (obtain ⟨_, rfl, _⟩ := h; rfl) | (obtain ⟨_, _, rfl, _⟩ := h; rfl) | (obtain ⟨_, _, _, rfl, _⟩ := h; rfl) | (obtain ⟨_, _, _, _, rfl, _⟩ := h; rfl) | (obtain ⟨_, _, _, _, _, rfl, _⟩ := h; rfl) | (obtain ⟨_, _, _, _, _, _, rfl, _⟩ := h; rfl) | (obtain ⟨_, _, _, _, _, _, _, rfl, _⟩ := h; rfl) | (obtain ⟨_, _, _, _, _, _, _, _, rfl, _⟩ := h; rfl) | (obtain ⟨_, _, _, _, _, _, _, _, _, rfl, _⟩ := h; rfl) | (obtain ⟨_, _, _, _, _, _, _, _, _, _, rfl, _⟩ := h; rfl) | (obtain ⟨_, _, _, _, _, _, _, _, _, _, _, rfl, _⟩ := h; rfl) | (obtain ⟨_, _, _, _, _, _, _, _, _, _, _, _, rfl, _⟩ := h; rfl) | (obtain ⟨_, _, _, _, _, _, _, _, _, _, _, _, _, rfl, _⟩ := h; rfl) | (obtain ⟨_, _, _, _, _, _, _, _, _, _, _, _, _, _, rfl, _⟩ := h; rfl) | (obtain ⟨_, _, _, _, _, _, _, _, _, _, _, _, _, _, _, rfl, _⟩ := h; rfl)) (fun cdv A outer s H E hr => ⟨body_added, (b3_one (m3_ret (p3 (r3_tuple (by rfl) B_tuple (r3 (p3_lc (own := [("j", 3)]) (js := [3]) rfl sc_added.nd (i3_range1 (by rfl) B_range (r3_len (by rfl) B_len (r3_name 1))) (blkOk_by (N := N_added) (sc := defScope s_added) (by decide +kernel)) (by decide) (fun _ _ _ _ _ => (g3_name 3 sc_added.nd)) (fun _ _ _ _ _ => ts3_nil) (fun _ _ _ _ _ => (p3 (r3_add (r3_ix (r3_name 0) (r3_name 3)) (r3_mul (r3_name 2) (r3_ix (r3_name 1) (r3_name 3)))))))))))), v_added⟩)
theorem ok_sums_within {f : Addr} {fd : FuncData} {k : Nat} (F : Fun K "sums_within" "sums_within" s_sums_within f fd) (B_enumerate : mg "enumerate" = none) (B_len : mg "len" = none) (B_list : mg "list" = none) (B_range : mg "range" = none) (C_added : Cal P w K mg base "added" k ["one", "row", "times"] sp_added) : FnOk P w K mg base CX0 (k + 1) f fd ["rows", "bounds"] (lift K sp_sums_within) :=
  ok3 F sc_sums_within (fun ts Q E h => by first | (obtain ⟨rfl, _⟩ := h; rfl) | (obtain ⟨_, rfl, _⟩ := h; rfl) | (obtain ⟨_, _, rfl, _⟩ := h; rfl) | (obtain ⟨_, _, _, rfl, _⟩ := h; rfl) | (obtain ⟨_, _, _, _, rfl, _⟩ := h; rfl) | (obtain ⟨_, _, _, _, _, rfl, _⟩ := h; rfl) | (obtain ⟨_, _, _, _, _, _, rfl, _⟩ := h; rfl) | (obtain ⟨_, _, _, _, _, _, _, rfl, _⟩ := h; rfl) | (obtain ⟨_, _, _, _, _, _, _, _, rfl, _⟩ := h; rfl) | (obtain ⟨_, _, _, _, _, _, _, _, _, rfl, _⟩ := h; rfl) | (obtain ⟨_, _, _, _, _, _, _, _, _, _, rfl, _⟩ := h; rfl) | (obtain ⟨_, _, _, _, _, _, _, _, _, _, _, rfl, _⟩ := h; rfl) | (obtain ⟨_, _, _, _, _, _, _, _, _, _, _, _, rfl, _⟩ := h; rfl) | (obtain ⟨_, _, _, _, _, _, _, _, _, _, _, _, _, rfl, _⟩ := h; rfl) | (obtain ⟨_, _, _, _, _, _, _, _, _, _, _, _, _, _, rfl, _⟩ := h; rfl) | (obtain ⟨_, _, _, _, _, _, _, _, _, _, _, _, _, _, _, rfl, _⟩ := h; rfl)) (fun cdv A outer s H E hr => ⟨body_sums_within, (b3_cons (m3_set 2 (p3_lst (pa3_cons (p3_mulT (r3 (p3_tup (pa3_cons (p3 r3_int) pa3_nil))) (r3_len (by rfl) B_len (r3_name 0))) pa3_nil)) sc_sums_within.nd)
      (b3_cons (m3_for PassesOwn.never rfl (i3_enumX (by rfl) B_enumerate (r3_name 0)) (g3_tup (n := 2) rfl (gs3_cons (g3_name 3 sc_sums_within.nd) (gs3_cons (g3_name 4 sc_sums_within.nd) gs3_nil))) (b3_cons (m3_set 5 (p3_list (by rfl) B_list (r3_name 2)) sc_sums_within.nd)
      (b3_one (m3_for PassesOwn.never rfl (i3_range2 (by rfl) B_range r3_int (r3_add (r3_ix (r3_name 1) (r3_name 3)) r3_int)) (g3_name 6 sc_sums_within.nd) (b3_one (m3_for PassesOwn.never rfl (i3_seq (r3 (p3_tup (pa3_cons (p3_move 6) (pa3_cons (p3 (r3_sub r3_int (r3_name 6))) pa3_nil))))) (g3_name 7 sc_sums_within.nd) (b3_one (m3_set 2 (p3_add (r3_name 2) (r3 (p3_lc (own := [("one", 8)]) (js := [8]) rfl sc_sums_within.nd (i3_seq (r3_name 5)) (blkOk_by (N := N_sums_within) (sc := defScope s_sums_within) (by decide +kernel)) (by decide) (fun _ _ _ _ _ => (g3_name 8 sc_sums_within.nd)) (fun _ _ _ _ _ => ts3_nil) (fun _ _ _ _ _ => (p3_cal C_added hr (by rfl) (c3_val (r3_name 8) (c3_val (r3_name 4) (c3_val (r3_name 7) c3_nil)))))))) sc_sums_within.nd))))))))
      (b3_one (m3_ret (p3_move 2))))), v_sums_within⟩)
theorem ok_least_shown_2_x {f : Addr} {fd : FuncData} {k : Nat} (F : Fun K "least_shown" "least_shown" s_least_shown_2_x f fd) (B_len : mg "len" = none) (B_range : mg "range" = none) (GL_MOST_SUMS : ∃ u, mg "MOST_SUMS" = some u ∧ RelV (.int 20000) u) (C_how_many_sums : Cal P w K mg base "how_many_sums" k ["bounds"] sp_how_many_sums) (C_least_bounds_x : CalX P w K mg base "least_bounds" k ["rows", "size"] (sp_least_bounds_x (cOf mg))) (C_size_of_b : Cal P w K mg base "size_of_papers" k ["row"] sp_size_of_b) (C_sums_within : Cal P w K mg base "sums_within" k ["rows", "bounds"] sp_sums_within) : FnOk P w K mg base (L2.CX P w) (k + 1) f fd ["rows", "size", "bounds"] (lift K (sp_least_shown_2_x (cOf mg))) :=
  ok3X F sc_least_shown_2_x (fun ts Q E h => by first | (obtain ⟨rfl, _⟩ := h; rfl) | (obtain ⟨_, rfl, _⟩ := h; rfl) | (obtain ⟨_, _, rfl, _⟩ := h; rfl) | (obtain ⟨_, _, _, rfl, _⟩ := h; rfl) | (obtain ⟨_, _, _, _, rfl, _⟩ := h; rfl) | (obtain ⟨_, _, _, _, _, rfl, _⟩ := h; rfl) | (obtain ⟨_, _, _, _, _, _, rfl, _⟩ := h; rfl) | (obtain ⟨_, _, _, _, _, _, _, rfl, _⟩ := h; rfl) | (obtain ⟨_, _, _, _, _, _, _, _, rfl, _⟩ := h; rfl) | (obtain ⟨_, _, _, _, _, _, _, _, _, rfl, _⟩ := h; rfl) | (obtain ⟨_, _, _, _, _, _, _, _, _, _, rfl, _⟩ := h; rfl) | (obtain ⟨_, _, _, _, _, _, _, _, _, _, _, rfl, _⟩ := h; rfl) | (obtain ⟨_, _, _, _, _, _, _, _, _, _, _, _, rfl, _⟩ := h; rfl) | (obtain ⟨_, _, _, _, _, _, _, _, _, _, _, _, _, rfl, _⟩ := h; rfl) | (obtain ⟨_, _, _, _, _, _, _, _, _, _, _, _, _, _, rfl, _⟩ := h; rfl) | (obtain ⟨_, _, _, _, _, _, _, _, _, _, _, _, _, _, _, rfl, _⟩ := h; rfl)) (fun cdv A outer s H E hr => ⟨body_least_shown_2_x (cOf mg), (b3_cons (m3_asgX (p3w_cal C_least_bounds_x hr (by rfl) (c3_val (r3_name 0) (c3_val (r3_name 1) c3_nil))) (g3_name 3 sc_least_shown_2_x.nd))
      (b3_nox (b3_cons (m3_if (t3_neI (r3_len (by rfl) B_len (r3_name 2)) (r3_len (by rfl) B_len (r3_name 0))) (b3_one (m3_ret (p3 r3_bool))) b3_nil)
      (b3_cons (m3_if (t3_w (w3_or (t3_ne hr.units (r3 (p3_lc (own := [("k", 6)]) (js := [6]) rfl sc_least_shown_2_x.nd (i3_range1 (by rfl) B_range (r3_len (by rfl) B_len (r3_name 0))) (blkOk_by (N := N_least_shown_2_x) (sc := defScope s_least_shown_2_x) (by decide +kernel)) (by decide) (fun _ _ _ _ _ => (g3_name 6 sc_least_shown_2_x.nd)) (fun _ _ _ _ _ => (ts3_one (t3_lt (r3_ix (r3_name 2) (r3_name 6)) (r3_ix (r3_name 3) (r3_name 6))))) (fun _ _ _ _ _ => (p3_move 6)))) (r3 (p3_lst pa3_nil))) (w3_or1 (t3_gt (r3 (p3_cal C_how_many_sums hr (by rfl) (c3_val (r3_name 2) c3_nil))) (r3_glI (i := 20000) GL_MOST_SUMS (by rfl)))))) (b3_one (m3_ret (p3 r3_bool))) b3_nil)
      (b3_cons (m3_set 4 (p3_cal C_sums_within hr (by rfl) (c3_val (r3_name 0) (c3_val (r3_name 2) c3_nil))) sc_least_shown_2_x.nd)
      (b3_one (m3_ret (p3 (r3_eq hr.units (r3 (p3_lc (own := [("row", 5)]) (js := [5]) rfl sc_least_shown_2_x.nd (i3_seq (r3 (p3_sl (r3_name 4) (po3_some r3_int) po3_none))) (blkOk_by (N := N_least_shown_2_x) (sc := defScope s_least_shown_2_x) (by decide +kernel)) (by decide) (fun _ _ _ _ _ => (g3_name 5 sc_least_shown_2_x.nd)) (fun _ _ _ _ _ => (ts3_one (t3_lt (r3 (p3_cal C_size_of_b hr (by rfl) (c3_val (r3_name 5) c3_nil))) (r3_name 1)))) (fun _ _ _ _ _ => (p3_move 5)))) (r3 (p3_lst pa3_nil))))))))))), v_least_shown_2_x (cOf mg)⟩)
theorem ok_law_refused_2 {f : Addr} {fd : FuncData} {k : Nat} (F : Fun K "_law_refused" "_law_refused" s_law_refused_2 f fd) (B_isinstance : mg "isinstance" = none) (B_range : mg "range" = none) (C_least_paper_x : CalX P w K mg base "least_paper" k ["rows", "size"] (sp_least_paper_x (cOf mg))) (C_least_shown_2_x : CalX P w K mg base "least_shown" k ["rows", "size", "bounds"] (sp_least_shown_2_x (cOf mg))) (ER : ErrOk K mg) : FnOk P w K mg base CX0 (k + 1) f fd ["_law_rows_here", "_law_size_here", "_law_bounds_here"] (lift K sp_law_refused_2) :=
  ok3 F sc_law_refused_2 (fun ts Q E h => by first | (obtain ⟨rfl, _⟩ := h; rfl) | (obtain ⟨_, rfl, _⟩ := h; rfl) | (obtain ⟨_, _, rfl, _⟩ := h; rfl) | (obtain ⟨_, _, _, rfl, _⟩ := h; rfl) | (obtain ⟨_, _, _, _, rfl, _⟩ := h; rfl) | (obtain ⟨_, _, _, _, _, rfl, _⟩ := h; rfl) | (obtain ⟨_, _, _, _, _, _, rfl, _⟩ := h; rfl) | (obtain ⟨_, _, _, _, _, _, _, rfl, _⟩ := h; rfl) | (obtain ⟨_, _, _, _, _, _, _, _, rfl, _⟩ := h; rfl) | (obtain ⟨_, _, _, _, _, _, _, _, _, rfl, _⟩ := h; rfl) | (obtain ⟨_, _, _, _, _, _, _, _, _, _, rfl, _⟩ := h; rfl) | (obtain ⟨_, _, _, _, _, _, _, _, _, _, _, rfl, _⟩ := h; rfl) | (obtain ⟨_, _, _, _, _, _, _, _, _, _, _, _, rfl, _⟩ := h; rfl) | (obtain ⟨_, _, _, _, _, _, _, _, _, _, _, _, _, rfl, _⟩ := h; rfl) | (obtain ⟨_, _, _, _, _, _, _, _, _, _, _, _, _, _, rfl, _⟩ := h; rfl) | (obtain ⟨_, _, _, _, _, _, _, _, _, _, _, _, _, _, _, rfl, _⟩ := h; rfl)) (fun cdv A outer s H E hr => ⟨body_law_refused_2 (cOf mg), (b3_cons (m3_for PassesOwn.never rfl (i3_range1 (by rfl) B_range r3_int) (g3_name 3 sc_law_refused_2.nd) (b3_cons (m3_set 4 (p3 r3_none) sc_law_refused_2.nd)
      (b3_cons (m3_tryU 5 ER sc_law_refused_2.nd (by rfl) (fun _ _ _ => (b3_one (m3_if (t3_eqI (r3_name 3) r3_int) (b3_one (m3_exprX (p3w_cal C_least_paper_x hr (by rfl) (c3_val (r3_name 0) (c3_val (r3_name 1) c3_nil))))) (b3_one (m3_exprX (p3w_cal C_least_shown_2_x hr (by rfl) (c3_val (r3_name 0) (c3_val (r3_name 1) (c3_val (r3_name 2) c3_nil))))))))) (fun _ _ => (b3_one (m3_set 4 (p3_move 5) sc_law_refused_2.nd))))
      (b3_cons (m3_if (t3_w (w3_or (t3_val (r3_isNs ER (by rfl) B_isinstance (r3_name 4) (nm_cons "NoAsk" ER (by rfl) (nm_cons "NoAsking" ER (by rfl) (nm_cons "NoNumber" ER (by rfl) (nm_cons "NoText" ER (by rfl) nm_nil)))))) (w3_or1 (t3_not (t3_val (r3_isV ER (by rfl) B_isinstance (by rfl) (r3_name 4))))))) (b3_one (m3_ret (p3 r3_bool))) b3_nil)
      (b3_one (m3_if (t3_not (t3_val (r3_isN_ "NoLattice" ER (by rfl) B_isinstance (by rfl) (r3_name 4)))) (b3_one (m3_ret (p3 r3_bool))) b3_nil))))))
      (b3_one (m3_ret (p3 r3_bool)))), v_law_refused_2 (cOf mg)⟩)
theorem ok_law_number_2 {f : Addr} {fd : FuncData} {k : Nat} (F : Fun K "_law_number" "_law_number" s_law_number_2 f fd) (B_int : mg "int" = none) (B_range : mg "range" = none) (B_str : mg "str" = none) (C_law_draw_1 : Cal P w K mg base "_law_draw" k ["_law_script", "_law_k"] sp_law_draw_1) : FnOk P w K mg base CX0 (k + 1) f fd ["_law_script", "_law_at", "_law_most"] (lift K sp_law_number_2) :=
  ok3 F sc_law_number_2 (fun ts Q E h => by first | (obtain ⟨rfl, _⟩ := h; rfl) | (obtain ⟨_, rfl, _⟩ := h; rfl) | (obtain ⟨_, _, rfl, _⟩ := h; rfl) | (obtain ⟨_, _, _, rfl, _⟩ := h; rfl) | (obtain ⟨_, _, _, _, rfl, _⟩ := h; rfl) | (obtain ⟨_, _, _, _, _, rfl, _⟩ := h; rfl) | (obtain ⟨_, _, _, _, _, _, rfl, _⟩ := h; rfl) | (obtain ⟨_, _, _, _, _, _, _, rfl, _⟩ := h; rfl) | (obtain ⟨_, _, _, _, _, _, _, _, rfl, _⟩ := h; rfl) | (obtain ⟨_, _, _, _, _, _, _, _, _, rfl, _⟩ := h; rfl) | (obtain ⟨_, _, _, _, _, _, _, _, _, _, rfl, _⟩ := h; rfl) | (obtain ⟨_, _, _, _, _, _, _, _, _, _, _, rfl, _⟩ := h; rfl) | (obtain ⟨_, _, _, _, _, _, _, _, _, _, _, _, rfl, _⟩ := h; rfl) | (obtain ⟨_, _, _, _, _, _, _, _, _, _, _, _, _, rfl, _⟩ := h; rfl) | (obtain ⟨_, _, _, _, _, _, _, _, _, _, _, _, _, _, rfl, _⟩ := h; rfl) | (obtain ⟨_, _, _, _, _, _, _, _, _, _, _, _, _, _, _, rfl, _⟩ := h; rfl)) (fun cdv A outer s H E hr => ⟨body_law_number_2, (b3_cons (m3_set 3 (p3 (r3_add r3_int (r3_mod (r3 (p3_cal C_law_draw_1 hr (by rfl) (c3_val (r3_name 0) (c3_val (r3_name 1) c3_nil)))) (r3_name 2)))) sc_law_number_2.nd)
      (b3_one (m3_ret (p3 (r3_int_ (by rfl) B_int (r3_join r3_str (r3 (p3_lc (own := [("_law_k", 4)]) (js := [4]) rfl sc_law_number_2.nd (i3_range1 (by rfl) B_range (r3_name 3)) (blkOk_by (N := N_law_number_2) (sc := defScope s_law_number_2) (by decide +kernel)) (by decide) (fun _ _ _ _ _ => (g3_name 4 sc_law_number_2.nd)) (fun _ _ _ _ _ => ts3_nil) (fun _ _ _ _ _ => (p3 (r3_str_ (by rfl) B_str (r3_mod (r3 (p3_cal C_law_draw_1 hr (by rfl) (c3_val (r3_name 0) (c3_val (r3_add (r3_add (r3_name 1) r3_int) (r3_name 4)) c3_nil)))) r3_int)))))))))))), v_law_number_2⟩)
theorem ok_law_without {f : Addr} {fd : FuncData} {k : Nat} (F : Fun K "_law_without" "_law_without" s_law_without f fd) (B_len : mg "len" = none) (B_range : mg "range" = none) : FnOk P w K mg base CX0 (k + 1) f fd ["_law_rows_here", "_law_skip_row", "_law_skip_place"] (lift K sp_law_without) :=
  ok3 F sc_law_without (fun ts Q E h => by first | (obtain ⟨rfl, _⟩ := h; rfl) | (obtain ⟨_, rfl, _⟩ := h; rfl) | (obtain ⟨_, _, rfl, _⟩ := h; rfl) | (obtain ⟨_, _, _, rfl, _⟩ := h; rfl) | (obtain ⟨_, _, _, _, rfl, _⟩ := h; rfl) | (obtain ⟨_, _, _, _, _, rfl, _⟩ := h; rfl) | (obtain ⟨_, _, _, _, _, _, rfl, _⟩ := h; rfl) | (obtain ⟨_, _, _, _, _, _, _, rfl, _⟩ := h; rfl) | (obtain ⟨_, _, _, _, _, _, _, _, rfl, _⟩ := h; rfl) | (obtain ⟨_, _, _, _, _, _, _, _, _, rfl, _⟩ := h; rfl) | (obtain ⟨_, _, _, _, _, _, _, _, _, _, rfl, _⟩ := h; rfl) | (obtain ⟨_, _, _, _, _, _, _, _, _, _, _, rfl, _⟩ := h; rfl) | (obtain ⟨_, _, _, _, _, _, _, _, _, _, _, _, rfl, _⟩ := h; rfl) | (obtain ⟨_, _, _, _, _, _, _, _, _, _, _, _, _, rfl, _⟩ := h; rfl) | (obtain ⟨_, _, _, _, _, _, _, _, _, _, _, _, _, _, rfl, _⟩ := h; rfl) | (obtain ⟨_, _, _, _, _, _, _, _, _, _, _, _, _, _, _, rfl, _⟩ := h; rfl)) (fun cdv A outer s H E hr => ⟨body_law_without, (b3_cons (m3_setLc 3 (own := [("_law_k", 4)]) (js := [4]) rfl sc_law_without.nd (i3_range1 (by rfl) B_range (r3_len (by rfl) B_len (r3_name 0))) (blkOk_by (N := N_law_without) (sc := defScope s_law_without) (by decide +kernel)) (by decide) (fun _ _ _ _ _ => (g3_name 4 sc_law_without.nd)) (fun _ _ _ _ _ => (ts3_one (t3_ne hr.units (r3_name 4) (r3_name 1)))) (fun _ _ _ _ _ => (p3 (r3_ix (r3_name 0) (r3_name 4)))))
      (b3_fz 3 (b3_one (m3_ret (p3_lc (own := [("_law_row", 5)]) (js := [5]) rfl sc_law_without.nd (i3_seq (r3_name 3)) (blkOk_by (N := N_law_without) (sc := defScope s_law_without) (by decide +kernel)) (by decide) (fun _ _ _ _ _ => (g3_name 5 sc_law_without.nd)) (fun _ _ _ _ _ => ts3_nil) (fun _ _ _ _ _ => (p3_add (r3 (p3_sl (r3_name 5) po3_none (po3_some (r3_name 2)))) (r3 (p3_sl (r3_name 5) (po3_some (r3_add (r3_name 2) r3_int)) po3_none))))))))), v_law_without⟩)
theorem ok_law_spanned {f : Addr} {fd : FuncData} {k : Nat} (n : Nat) (F : Fun K "_law_spanned" "_law_spanned" s_law_spanned f fd) (B_len : mg "len" = none) (B_range : mg "range" = none) (C_law_without : Cal P w K mg base "_law_without" k ["_law_rows_here", "_law_skip_row", "_law_skip_place"] sp_law_without) (C_law_spanned : Cal P w K mg base "_law_spanned" k ["_law_rows_here"] (sp_law_spanned n)) : FnOk P w K mg base CX0 (k + 1) f fd ["_law_rows_here"] (lift K (sp_law_spanned (n + 1))) :=
  ok3 F sc_law_spanned (fun ts Q E h => by first | (obtain ⟨rfl, _⟩ := h; rfl) | (obtain ⟨_, rfl, _⟩ := h; rfl) | (obtain ⟨_, _, rfl, _⟩ := h; rfl) | (obtain ⟨_, _, _, rfl, _⟩ := h; rfl) | (obtain ⟨_, _, _, _, rfl, _⟩ := h; rfl) | (obtain ⟨_, _, _, _, _, rfl, _⟩ := h; rfl) | (obtain ⟨_, _, _, _, _, _, rfl, _⟩ := h; rfl) | (obtain ⟨_, _, _, _, _, _, _, rfl, _⟩ := h; rfl) | (obtain ⟨_, _, _, _, _, _, _, _, rfl, _⟩ := h; rfl) | (obtain ⟨_, _, _, _, _, _, _, _, _, rfl, _⟩ := h; rfl) | (obtain ⟨_, _, _, _, _, _, _, _, _, _, rfl, _⟩ := h; rfl) | (obtain ⟨_, _, _, _, _, _, _, _, _, _, _, rfl, _⟩ := h; rfl) | (obtain ⟨_, _, _, _, _, _, _, _, _, _, _, _, rfl, _⟩ := h; rfl) | (obtain ⟨_, _, _, _, _, _, _, _, _, _, _, _, _, rfl, _⟩ := h; rfl) | (obtain ⟨_, _, _, _, _, _, _, _, _, _, _, _, _, _, rfl, _⟩ := h; rfl) | (obtain ⟨_, _, _, _, _, _, _, _, _, _, _, _, _, _, _, rfl, _⟩ := h; rfl)) (fun cdv A outer s H E hr => ⟨body_law_spanned (sp_law_spanned n), (b3_cons (m3_if (t3_eqI (r3_len (by rfl) B_len (r3_name 0)) r3_int) (b3_one (m3_ret (p3 r3_int))) b3_nil)
      (b3_cons (m3_set 1 (p3 r3_int) sc_law_spanned.nd)
      (b3_cons (m3_for PassesOwn.never rfl (i3_range1 (by rfl) B_range (r3_len (by rfl) B_len (r3_name 0))) (g3_name 2 sc_law_spanned.nd) (b3_cons (m3_set 3 (p3 (r3_mul (r3_ix (r3_ix (r3_name 0) r3_int) (r3_name 2)) (r3 (p3_cal C_law_spanned hr (by rfl) (c3_val (r3 (p3_cal C_law_without hr (by rfl) (c3_val (r3_name 0) (c3_val r3_int (c3_val (r3_name 2) c3_nil))))) c3_nil))))) sc_law_spanned.nd)
      (b3_one (m3_set 1 (p3 (r3_add (r3_name 1) (r3_mul (r3_name 3) (r3_ix (r3 (p3_lst (pa3_cons (p3 r3_int) (pa3_cons (p3 (r3_neg r3_int)) pa3_nil)))) (r3_mod (r3_name 2) r3_int))))) sc_law_spanned.nd))))
      (b3_one (m3_ret (p3_move 1)))))), v_law_spanned n⟩)
theorem okn_law_spanned {f : Addr} {fd : FuncData} {k : Nat} (F : Fun K "_law_spanned" "_law_spanned" s_law_spanned f fd) (hm : mg "_law_spanned" = some (.ref f)) (hk : PySem.W.keepIn K (.ref f) = true) (hb : Binds K fd ["_law_rows_here"] []) (B_len : mg "len" = none) (B_range : mg "range" = none) (C_law_without : Cal P w K mg base "_law_without" k ["_law_rows_here", "_law_skip_row", "_law_skip_place"] sp_law_without) (z0 : ∀ ts Q E, sp_law_spanned 0 ts Q E → False) : ∀ n, FnOk P w K mg base CX0 (k + n + 1) f fd ["_law_rows_here"] (lift K (sp_law_spanned n))
  | 0 => ok0 F sc_law_spanned z0
  | n + 1 => ok_law_spanned n F B_len B_range (C_law_without.mono (by omega)) ⟨f, fd, okn_law_spanned F hm hk hb B_len B_range C_law_without z0 n, hm, hk, hb⟩
theorem ok_law_rows_3 {f : Addr} {fd : FuncData} {k : Nat} (F : Fun K "_law_rows" "_law_rows" s_law_rows_3 f fd) (B_int : mg "int" = none) (B_range : mg "range" = none) (B_tuple : mg "tuple" = none) (C_law_draw_1 : Cal P w K mg base "_law_draw" k ["_law_script", "_law_k"] sp_law_draw_1) (C_law_number_2 : Cal P w K mg base "_law_number" k ["_law_script", "_law_at", "_law_most"] sp_law_number_2) (C_law_spanned : Cal P w K mg base "_law_spanned" k ["_law_rows_here"] (sp_law_spanned 8)) : FnOk P w K mg base CX0 (k + 1) f fd ["_law_script", "_law_at", "_law_most"] (lift K sp_law_rows_3) :=
  ok3 F sc_law_rows_3 (fun ts Q E h => by first | (obtain ⟨rfl, _⟩ := h; rfl) | (obtain ⟨_, rfl, _⟩ := h; rfl) | (obtain ⟨_, _, rfl, _⟩ := h; rfl) | (obtain ⟨_, _, _, rfl, _⟩ := h; rfl) | (obtain ⟨_, _, _, _, rfl, _⟩ := h; rfl) | (obtain ⟨_, _, _, _, _, rfl, _⟩ := h; rfl) | (obtain ⟨_, _, _, _, _, _, rfl, _⟩ := h; rfl) | (obtain ⟨_, _, _, _, _, _, _, rfl, _⟩ := h; rfl) | (obtain ⟨_, _, _, _, _, _, _, _, rfl, _⟩ := h; rfl) | (obtain ⟨_, _, _, _, _, _, _, _, _, rfl, _⟩ := h; rfl) | (obtain ⟨_, _, _, _, _, _, _, _, _, _, rfl, _⟩ := h; rfl) | (obtain ⟨_, _, _, _, _, _, _, _, _, _, _, rfl, _⟩ := h; rfl) | (obtain ⟨_, _, _, _, _, _, _, _, _, _, _, _, rfl, _⟩ := h; rfl) | (obtain ⟨_, _, _, _, _, _, _, _, _, _, _, _, _, rfl, _⟩ := h; rfl) | (obtain ⟨_, _, _, _, _, _, _, _, _, _, _, _, _, _, rfl, _⟩ := h; rfl) | (obtain ⟨_, _, _, _, _, _, _, _, _, _, _, _, _, _, _, rfl, _⟩ := h; rfl)) (fun cdv A outer s H E hr => ⟨body_law_rows_3, (b3_cons (m3_set 3 (p3 (r3_add r3_int (r3_mod (r3 (p3_cal C_law_draw_1 hr (by rfl) (c3_val (r3_name 0) (c3_val (r3_name 1) c3_nil)))) r3_int))) sc_law_rows_3.nd)
      (b3_cons (m3_set 4 (p3_lst pa3_nil) sc_law_rows_3.nd)
      (b3_cons (m3_for PassesOwn.never rfl (i3_range1 (by rfl) B_range (r3_name 3)) (g3_name 5 sc_law_rows_3.nd) (b3_cons (m3_set 6 (p3_lst pa3_nil) sc_law_rows_3.nd)
      (b3_cons (m3_for PassesOwn.never rfl (i3_range1 (by rfl) B_range (r3_name 3)) (g3_name 7 sc_law_rows_3.nd) (b3_cons (m3_set 8 (p3 (r3_ix (r3 (p3_tup (pa3_cons (p3 r3_int) (pa3_cons (p3 (r3_neg r3_int)) pa3_nil)))) (r3_mod (r3 (p3_cal C_law_draw_1 hr (by rfl) (c3_val (r3_name 0) (c3_val (r3_add (r3_add (r3_add (r3_name 1) r3_int) (r3_mul r3_int (r3_name 5))) (r3_name 7)) c3_nil)))) r3_int))) sc_law_rows_3.nd)
      (b3_one (m3_expr (p3_append 6 (p3 (r3_mul (r3_name 8) (r3 (p3_cal C_law_number_2 hr (by rfl) (c3_val (r3_name 0) (c3_val (r3_add (r3_add (r3_add (r3_name 1) r3_int) (r3_mul r3_int (r3_name 5))) (r3_mul r3_int (r3_name 7))) (c3_val (r3_name 2) c3_nil))))))))))))
      (b3_one (m3_expr (p3_append 4 (p3 (r3_tuple (by rfl) B_tuple (r3_name 6)))))))))
      (b3_fz 4 (b3_cons (m3_if (t3_neI (r3 (p3_cal C_law_spanned hr (by rfl) (c3_val (r3_name 4) c3_nil))) r3_int) (b3_one (m3_ret (p3 (r3_tuple (by rfl) B_tuple (r3_name 4))))) b3_nil)
      (b3_one (m3_ret (p3 (r3_tuple (by rfl) B_tuple (r3 (p3_lc (own := [("_law_k", 5)]) (js := [5]) rfl sc_law_rows_3.nd (i3_range1 (by rfl) B_range (r3_name 3)) (blkOk_by (N := N_law_rows_3) (sc := defScope s_law_rows_3) (by decide +kernel)) (by decide) (fun _ _ _ _ _ => (g3_name 5 sc_law_rows_3.nd)) (fun _ _ _ _ _ => ts3_nil) (fun _ _ _ _ _ => (p3 (r3_tuple (by rfl) B_tuple (r3 (p3_lc (own := [("_law_j", 7)]) (js := [7]) rfl sc_law_rows_3.nd (i3_range1 (by rfl) B_range (r3_name 3)) (blkOk_by (N := N_law_rows_3) (sc := _) (by first | exact (Eq.refl true) | with_unfolding_all rfl)) (by decide) (fun _ _ _ _ _ => (g3_name 7 sc_law_rows_3.nd)) (fun _ _ _ _ _ => ts3_nil) (fun _ _ _ _ _ => (p3 (r3_mul (r3_int_ (by rfl) B_int (r3_le (r3_name 7) (r3_name 5))) (r3_add r3_int (r3_name 7))))))))))))))))))))), v_law_rows_3⟩)
theorem ok_law_27 {f : Addr} {fd : FuncData} {k : Nat} (F : Fun K "law" "law" s_law_27 f fd) (B_len : mg "len" = none) (B_list : mg "list" = none) (B_range : mg "range" = none) (B_tuple : mg "tuple" = none) (C_law_draw_1 : Cal P w K mg base "_law_draw" k ["_law_script", "_law_k"] sp_law_draw_1) (C_law_refused_2 : Cal P w K mg base "_law_refused" k ["_law_rows_here", "_law_size_here", "_law_bounds_here"] sp_law_refused_2) (C_law_rows_3 : Cal P w K mg base "_law_rows" k ["_law_script", "_law_at", "_law_most"] sp_law_rows_3) : FnOk P w K mg base CX0 (k + 1) f fd ["_law_script"] (lift K spLaw) :=
  ok3 F sc_law_27 (fun ts Q E h => by first | (obtain ⟨rfl, _⟩ := h; rfl) | (obtain ⟨_, rfl, _⟩ := h; rfl) | (obtain ⟨_, _, rfl, _⟩ := h; rfl) | (obtain ⟨_, _, _, rfl, _⟩ := h; rfl) | (obtain ⟨_, _, _, _, rfl, _⟩ := h; rfl) | (obtain ⟨_, _, _, _, _, rfl, _⟩ := h; rfl) | (obtain ⟨_, _, _, _, _, _, rfl, _⟩ := h; rfl) | (obtain ⟨_, _, _, _, _, _, _, rfl, _⟩ := h; rfl) | (obtain ⟨_, _, _, _, _, _, _, _, rfl, _⟩ := h; rfl) | (obtain ⟨_, _, _, _, _, _, _, _, _, rfl, _⟩ := h; rfl) | (obtain ⟨_, _, _, _, _, _, _, _, _, _, rfl, _⟩ := h; rfl) | (obtain ⟨_, _, _, _, _, _, _, _, _, _, _, rfl, _⟩ := h; rfl) | (obtain ⟨_, _, _, _, _, _, _, _, _, _, _, _, rfl, _⟩ := h; rfl) | (obtain ⟨_, _, _, _, _, _, _, _, _, _, _, _, _, rfl, _⟩ := h; rfl) | (obtain ⟨_, _, _, _, _, _, _, _, _, _, _, _, _, _, rfl, _⟩ := h; rfl) | (obtain ⟨_, _, _, _, _, _, _, _, _, _, _, _, _, _, _, rfl, _⟩ := h; rfl)) (fun cdv A outer s H E hr => ⟨body_law_27, (b3_cons (m3_for PassesOwn.never rfl (i3_range1 (by rfl) B_range r3_int) (g3_name 1 sc_law_27.nd) (b3_cons (m3_set 2 (p3_list (by rfl) B_list (r3 (p3_cal C_law_rows_3 hr (by rfl) (c3_val (r3_name 0) (c3_val (r3_add r3_int (r3_mul r3_int (r3_name 1))) (c3_val (r3_ix (r3 (p3_tup (pa3_cons (p3 r3_int) (pa3_cons (p3 r3_int) (pa3_cons (p3 r3_int) pa3_nil))))) (r3_mod (r3 (p3_cal C_law_draw_1 hr (by rfl) (c3_val (r3_name 0) (c3_val (r3_add r3_int (r3_name 1)) c3_nil)))) r3_int)) c3_nil)))))) sc_law_27.nd)
      (b3_fz 2 (b3_cons (m3_set 3 (p3 (r3_mod (r3 (p3_cal C_law_draw_1 hr (by rfl) (c3_val (r3_name 0) (c3_val (r3_add r3_int (r3_name 1)) c3_nil)))) (r3_len (by rfl) B_len (r3_name 2)))) sc_law_27.nd)
      (b3_cons (m3_set 4 (p3 (r3_mod (r3 (p3_cal C_law_draw_1 hr (by rfl) (c3_val (r3_name 0) (c3_val (r3_add r3_int (r3_name 1)) c3_nil)))) (r3_len (by rfl) B_len (r3_name 2)))) sc_law_27.nd)
      (b3_cons (m3_set 5 (p3 (r3_mod (r3 (p3_cal C_law_draw_1 hr (by rfl) (c3_val (r3_name 0) (c3_val (r3_add r3_int (r3_name 1)) c3_nil)))) r3_int)) sc_law_27.nd)
      (b3_cons (m3_set 6 (p3_mulT (r3 (p3_tup (pa3_cons (p3 r3_int) pa3_nil))) (r3_len (by rfl) B_len (r3_name 2))) sc_law_27.nd)
      (b3_cons (m3_set 7 (p3_add (r3 (p3_add (r3 (p3_sl (r3_name 2) po3_none (po3_some (r3_name 3)))) (r3 (p3_lst (pa3_cons (p3 (r3 (p3_mulT (r3 (p3_tup (pa3_cons (p3 r3_int) pa3_nil))) (r3_len (by rfl) B_len (r3_name 2))))) pa3_nil))))) (r3 (p3_sl (r3_name 2) (po3_some (r3_add (r3_name 3) r3_int)) po3_none))) sc_law_27.nd)
      (b3_fz 7 (b3_cons (m3_set 8 (p3_add (r3 (p3_add (r3 (p3_sl (r3_name 2) po3_none (po3_some (r3_name 3)))) (r3 (p3_lst (pa3_cons (p3 (r3 (p3_add (r3_ix (r3_name 2) (r3_name 3)) (r3 (p3_tup (pa3_cons (p3 r3_int) pa3_nil)))))) pa3_nil))))) (r3 (p3_sl (r3_name 2) (po3_some (r3_add (r3_name 3) r3_int)) po3_none))) sc_law_27.nd)
      (b3_fz 8 (b3_cons (m3_set 9 (p3_add (r3 (p3_add (r3 (p3_sl (r3_name 2) po3_none (po3_some (r3_name 3)))) (r3 (p3_lst (pa3_cons (p3 (r3 (p3_sl (r3_ix (r3_name 2) (r3_name 3)) (po3_some r3_int) po3_none))) pa3_nil))))) (r3 (p3_sl (r3_name 2) (po3_some (r3_add (r3_name 3) r3_int)) po3_none))) sc_law_27.nd)
      (b3_fz 9 (b3_cons (m3_set 10 (p3_lst (pa3_cons (p3_move 7) (pa3_cons (p3_move 8) (pa3_cons (p3_move 9) (pa3_cons (p3 (r3 (p3_lst pa3_nil))) pa3_nil))))) sc_law_27.nd)
      (b3_cons (m3_if (t3_gt (r3_len (by rfl) B_len (r3_name 2)) r3_int) (b3_cons (m3_asg (p3 (r3 (p3_sl (r3 (p3_lc (own := [("_law_k", 17)]) (js := [17]) rfl sc_law_27.nd (i3_range1 (by rfl) B_range (r3_len (by rfl) B_len (r3_name 2))) (blkOk_by (N := N_law_27) (sc := defScope s_law_27) (by decide +kernel)) (by decide) (fun _ _ _ _ _ => (g3_name 17 sc_law_27.nd)) (fun _ _ _ _ _ => (ts3_one (t3_ne hr.units (r3_name 17) (r3_name 3)))) (fun _ _ _ _ _ => (p3 (r3_ix (r3_name 2) (r3_name 17)))))) po3_none (po3_some r3_int)))) (g3_tupL (n := 2) rfl (gs3_cons (g3_name 11 sc_law_27.nd) (gs3_cons (g3_name 12 sc_law_27.nd) gs3_nil))))
      (b3_cons (m3_set 13 (p3 (r3_tuple (by rfl) B_tuple (r3 (p3_lc (own := [("_law_j", 18)]) (js := [18]) rfl sc_law_27.nd (i3_range1 (by rfl) B_range (r3_len (by rfl) B_len (r3_name 2))) (blkOk_by (N := N_law_27) (sc := defScope s_law_27) (by decide +kernel)) (by decide) (fun _ _ _ _ _ => (g3_name 18 sc_law_27.nd)) (fun _ _ _ _ _ => ts3_nil) (fun _ _ _ _ _ => (p3 (r3_add (r3_ix (r3_name 11) (r3_name 18)) (r3_mul r3_int (r3_ix (r3_name 12) (r3_name 18)))))))))) sc_law_27.nd)
      (b3_one (m3_expr (p3 (r3 (p3_append 10 (p3 (r3 (p3_add (r3 (p3_add (r3 (p3_sl (r3_name 2) po3_none (po3_some (r3_name 3)))) (r3 (p3_lst (pa3_cons (p3_move 13) pa3_nil))))) (r3 (p3_sl (r3_name 2) (po3_some (r3_add (r3_name 3) r3_int)) po3_none)))))))))))) b3_nil)
      (b3_cons (m3_if (t3_lt (r3_len (by rfl) B_len (r3_name 2)) r3_int) (b3_one (m3_expr (p3 (r3 (p3_append 10 (p3 (r3 (p3_add (r3_name 2) (r3 (p3_lst (pa3_cons (p3 (r3_ix (r3_name 2) (r3_name 3))) pa3_nil))))))))))) b3_nil)
      (b3_cons (m3_if (t3_gt (r3_len (by rfl) B_len (r3_name 2)) r3_int) (b3_one (m3_expr (p3 (r3 (p3_append 10 (p3 (r3 (p3_add (r3 (p3_sl (r3_name 2) po3_none (po3_some (r3_name 3)))) (r3 (p3_sl (r3_name 2) (po3_some (r3_add (r3_name 3) r3_int)) po3_none)))))))))) b3_nil)
      (b3_cons (m3_forO 10 PassesOwn.never rfl (g3_name 14 sc_law_27.nd) (b3_one (m3_if (t3_not (t3_val (r3 (p3_cal C_law_refused_2 hr (by rfl) (c3_val (r3_tuple (by rfl) B_tuple (r3_name 14)) (c3_val (r3_name 5) (c3_val (r3_name 6) c3_nil))))))) (b3_one (m3_ret (p3 r3_bool))) b3_nil)))
      (b3_one (m3_if (t3_ne hr.units (r3_name 4) (r3_name 3)) (b3_cons (m3_set 15 (p3 (r3_sub (r3_mod (r3 (p3_cal C_law_draw_1 hr (by rfl) (c3_val (r3_name 0) (c3_val (r3_add r3_int (r3_name 1)) c3_nil)))) r3_int) r3_int)) sc_law_27.nd)
      (b3_cons (m3_set 16 (p3 (r3_tuple (by rfl) B_tuple (r3 (p3_lc (own := [("_law_number_here", 19)]) (js := [19]) rfl sc_law_27.nd (i3_seq (r3_ix (r3_name 2) (r3_name 4))) (blkOk_by (N := N_law_27) (sc := defScope s_law_27) (by decide +kernel)) (by decide) (fun _ _ _ _ _ => (g3_name 19 sc_law_27.nd)) (fun _ _ _ _ _ => ts3_nil) (fun _ _ _ _ _ => (p3 (r3_mul (r3_name 15) (r3_name 19)))))))) sc_law_27.nd)
      (b3_one (m3_if (t3_not (t3_val (r3 (p3_cal C_law_refused_2 hr (by rfl) (c3_val (r3_tuple (by rfl) B_tuple (r3 (p3_add (r3 (p3_add (r3 (p3_sl (r3_name 2) po3_none (po3_some (r3_name 3)))) (r3 (p3_lst (pa3_cons (p3_move 16) pa3_nil))))) (r3 (p3_sl (r3_name 2) (po3_some (r3_add (r3_name 3) r3_int)) po3_none))))) (c3_val (r3_name 5) (c3_val (r3_name 6) c3_nil))))))) (b3_one (m3_ret (p3 r3_bool))) b3_nil)))) b3_nil))))))))))))))))))))
      (b3_one (m3_ret (p3 r3_bool)))), v_law_27⟩)
end
theorem all_mk {l : PySem.W.OpenLaw} {w : World} {K : PySem.W.Frag} {h : Heap} {mg : Str → Option Value} {fa f0 f1 f2 f3 f4 f5 f6 f7 f8 f9 f10 f11 f12 f13 f14 f15 f16 f17 f18 f19 f20 f21 f22 f23 f24 f25 f26 f27 f28 f29 f30 f31 f32 f33 f34 f35 f36 : Addr} (X : K.In h) (G : h.Ns mainGlobals mg) (hfa : mg "law" = some (.ref fa))
    {od0 an0 od1 an1 od2 an2 od3 an3 od4 an4 od5 an5 od6 an6 od7 an7 od8 an8 od9 an9 od10 an10 od11 an11 od12 an12 od13 an13 od14 an14 od15 an15 od16 an16 od17 an17 od18 an18 od19 an19 od20 an20 od21 an21 od22 an22 od23 an23 od24 an24 od25 an25 od26 an26 od27 an27 od28 an28 od29 an29 od30 an30 od31 an31 od32 an32 od33 an33 od34 an34 od35 an35 od36 an36 : Option Addr} {sl0 sl1 sl2 sl3 sl4 sl5 sl6 sl7 sl8 sl9 sl10 sl11 sl12 sl13 sl14 sl15 sl16 sl17 sl18 sl19 sl20 sl21 sl22 sl23 sl24 sl25 sl26 sl27 sl28 sl29 sl30 sl31 sl32 sl33 sl34 sl35 sl36 : Array (Option Value)} {oc0 kV0 dc0 pm0 cd0 ct0 oc1 kV1 dc1 pm1 cd1 ct1 oc2 kV2 dc2 pm2 cd2 ct2 oc3 kV3 dc3 pm3 cd3 ct3 oc4 kV4 dc4 pm4 cd4 ct4 oc5 kV5 dc5 pm5 cd5 ct5 oc6 kV6 dc6 pm6 cd6 ct6 oc7 kV7 dc7 pm7 cd7 ct7 oc8 kV8 dc8 pm8 cd8 ct8 oc9 kV9 dc9 pm9 cd9 ct9 oc10 kV10 dc10 pm10 cd10 ct10 oc11 kV11 dc11 pm11 cd11 ct11 oc12 kV12 dc12 pm12 cd12 ct12 oc13 kV13 dc13 pm13 cd13 ct13 oc14 kV14 dc14 pm14 cd14 ct14 oc15 kV15 dc15 pm15 cd15 ct15 oc16 kV16 dc16 pm16 cd16 ct16 oc17 kV17 dc17 pm17 cd17 ct17 oc18 kV18 dc18 pm18 cd18 ct18 oc19 kV19 dc19 pm19 cd19 ct19 oc20 kV20 dc20 pm20 cd20 ct20 oc21 kV21 dc21 pm21 cd21 ct21 oc22 kV22 dc22 pm22 cd22 ct22 oc23 kV23 dc23 pm23 cd23 ct23 oc24 kV24 dc24 pm24 cd24 ct24 oc25 kV25 dc25 pm25 cd25 ct25 oc26 kV26 dc26 pm26 cd26 ct26 oc27 kV27 dc27 pm27 cd27 ct27 oc28 kV28 dc28 pm28 cd28 ct28 oc29 kV29 dc29 pm29 cd29 ct29 oc30 kV30 dc30 pm30 cd30 ct30 oc31 kV31 dc31 pm31 cd31 ct31 oc32 kV32 dc32 pm32 cd32 ct32 oc33 kV33 dc33 pm33 cd33 ct33 oc34 kV34 dc34 pm34 cd34 ct34 oc35 kV35 dc35 pm35 cd35 ct35 oc36 kV36 dc36 pm36 cd36 ct36 : Value}
    (a0 : PySem.W.nsIn K mainGlobals "_law_draw" = some (some (.ref f0))) (l0 : K.lookup f0 = some ⟨oc0, od0, .func (PySem.W.fnOf "_law_draw" "_law_draw" (defArgs s_law_draw_1) (defBody s_law_draw_1) (defScope s_law_draw_1) .none kV0 dc0 pm0 an0 cd0 ct0), sl0⟩) (c0 : PySem.W.codeIn K cd0 "_law_draw" = true) (k0 : PySem.W.keepIn K (.ref f0) = true)
    (a1 : PySem.W.nsIn K mainGlobals "taken_off" = some (some (.ref f1))) (l1 : K.lookup f1 = some ⟨oc1, od1, .func (PySem.W.fnOf "taken_off" "taken_off" (defArgs s_taken_off) (defBody s_taken_off) (defScope s_taken_off) .none kV1 dc1 pm1 an1 cd1 ct1), sl1⟩) (c1 : PySem.W.codeIn K cd1 "taken_off" = true) (k1 : PySem.W.keepIn K (.ref f1) = true)
    (a2 : PySem.W.nsIn K mainGlobals "stepped" = some (some (.ref f2))) (l2 : K.lookup f2 = some ⟨oc2, od2, .func (PySem.W.fnOf "stepped" "stepped" (defArgs s_stepped) (defBody s_stepped) (defScope s_stepped) .none kV2 dc2 pm2 an2 cd2 ct2), sl2⟩) (c2 : PySem.W.codeIn K cd2 "stepped" = true) (k2 : PySem.W.keepIn K (.ref f2) = true)
    (a3 : PySem.W.nsIn K mainGlobals "measure_of" = some (some (.ref f3))) (l3 : K.lookup f3 = some ⟨oc3, od3, .func (PySem.W.fnOf "measure_of" "measure_of" (defArgs s_measure_of) (defBody s_measure_of) (defScope s_measure_of) .none kV3 dc3 pm3 an3 cd3 ct3), sl3⟩) (c3 : PySem.W.codeIn K cd3 "measure_of" = true) (k3 : PySem.W.keepIn K (.ref f3) = true)
    (a4 : PySem.W.nsIn K mainGlobals "is_square" = some (some (.ref f4))) (l4 : K.lookup f4 = some ⟨oc4, od4, .func (PySem.W.fnOf "is_square" "is_square" (defArgs s_is_square) (defBody s_is_square) (defScope s_is_square) .none kV4 dc4 pm4 an4 cd4 ct4), sl4⟩) (c4 : PySem.W.codeIn K cd4 "is_square" = true) (k4 : PySem.W.keepIn K (.ref f4) = true)
    (a5 : PySem.W.nsIn K mainGlobals "is_lattice" = some (some (.ref f5))) (l5 : K.lookup f5 = some ⟨oc5, od5, .func (PySem.W.fnOf "is_lattice" "is_lattice" (defArgs s_is_lattice) (defBody s_is_lattice) (defScope s_is_lattice) .none kV5 dc5 pm5 an5 cd5 ct5), sl5⟩) (c5 : PySem.W.codeIn K cd5 "is_lattice" = true) (k5 : PySem.W.keepIn K (.ref f5) = true)
    (a6 : PySem.W.nsIn K mainGlobals "need_lattice" = some (some (.ref f6))) (l6 : K.lookup f6 = some ⟨oc6, od6, .func (PySem.W.fnOf "need_lattice" "need_lattice" (defArgs s_need_lattice_x) (defBody s_need_lattice_x) (defScope s_need_lattice_x) .none kV6 dc6 pm6 an6 cd6 ct6), sl6⟩) (c6 : PySem.W.codeIn K cd6 "need_lattice" = true) (k6 : PySem.W.keepIn K (.ref f6) = true)
    (a7 : PySem.W.nsIn K mainGlobals "measure" = some (some (.ref f7))) (l7 : K.lookup f7 = some ⟨oc7, od7, .func (PySem.W.fnOf "measure" "measure" (defArgs s_measure_x) (defBody s_measure_x) (defScope s_measure_x) .none kV7 dc7 pm7 an7 cd7 ct7), sl7⟩) (c7 : PySem.W.codeIn K cd7 "measure" = true) (k7 : PySem.W.keepIn K (.ref f7) = true)
    (a8 : PySem.W.nsIn K mainGlobals "minor_of" = some (some (.ref f8))) (l8 : K.lookup f8 = some ⟨oc8, od8, .func (PySem.W.fnOf "minor_of" "minor_of" (defArgs s_minor_of) (defBody s_minor_of) (defScope s_minor_of) .none kV8 dc8 pm8 an8 cd8 ct8), sl8⟩) (c8 : PySem.W.codeIn K cd8 "minor_of" = true) (k8 : PySem.W.keepIn K (.ref f8) = true)
    (a9 : PySem.W.nsIn K mainGlobals "span_of" = some (some (.ref f9))) (l9 : K.lookup f9 = some ⟨oc9, od9, .func (PySem.W.fnOf "span_of" "span_of" (defArgs s_span_of) (defBody s_span_of) (defScope s_span_of) .none kV9 dc9 pm9 an9 cd9 ct9), sl9⟩) (c9 : PySem.W.codeIn K cd9 "span_of" = true) (k9 : PySem.W.keepIn K (.ref f9) = true)
    (a10 : PySem.W.nsIn K mainGlobals "least_bounds" = some (some (.ref f10))) (l10 : K.lookup f10 = some ⟨oc10, od10, .func (PySem.W.fnOf "least_bounds" "least_bounds" (defArgs s_least_bounds_x) (defBody s_least_bounds_x) (defScope s_least_bounds_x) .none kV10 dc10 pm10 an10 cd10 ct10), sl10⟩) (c10 : PySem.W.codeIn K cd10 "least_bounds" = true) (k10 : PySem.W.keepIn K (.ref f10) = true)
    (a11 : PySem.W.nsIn K mainGlobals "determinant" = some (some (.ref f11))) (l11 : K.lookup f11 = some ⟨oc11, od11, .func (PySem.W.fnOf "determinant" "determinant" (defArgs s_determinant) (defBody s_determinant) (defScope s_determinant) .none kV11 dc11 pm11 an11 cd11 ct11), sl11⟩) (c11 : PySem.W.codeIn K cd11 "determinant" = true) (k11 : PySem.W.keepIn K (.ref f11) = true)
    (a12 : PySem.W.nsIn K mainGlobals "multiples" = some (some (.ref f12))) (l12 : K.lookup f12 = some ⟨oc12, od12, .func (PySem.W.fnOf "multiples" "multiples" (defArgs s_multiples) (defBody s_multiples) (defScope s_multiples) .none kV12 dc12 pm12 an12 cd12 ct12), sl12⟩) (c12 : PySem.W.codeIn K cd12 "multiples" = true) (k12 : PySem.W.keepIn K (.ref f12) = true)
    (a13 : PySem.W.nsIn K mainGlobals "put_to" = some (some (.ref f13))) (l13 : K.lookup f13 = some ⟨oc13, od13, .func (PySem.W.fnOf "put_to" "put_to" (defArgs s_put_to) (defBody s_put_to) (defScope s_put_to) .none kV13 dc13 pm13 an13 cd13 ct13), sl13⟩) (c13 : PySem.W.codeIn K cd13 "put_to" = true) (k13 : PySem.W.keepIn K (.ref f13) = true)
    (a14 : PySem.W.nsIn K mainGlobals "stretch_in" = some (some (.ref f14))) (l14 : K.lookup f14 = some ⟨oc14, od14, .func (PySem.W.fnOf "stretch_in" "stretch_in" (defArgs s_stretch_in) (defBody s_stretch_in) (defScope s_stretch_in) .none kV14 dc14 pm14 an14 cd14 ct14), sl14⟩) (c14 : PySem.W.codeIn K cd14 "stretch_in" = true) (k14 : PySem.W.keepIn K (.ref f14) = true)
    (a15 : PySem.W.nsIn K mainGlobals "turned_back" = some (some (.ref f15))) (l15 : K.lookup f15 = some ⟨oc15, od15, .func (PySem.W.fnOf "turned_back" "turned_back" (defArgs s_turned_back) (defBody s_turned_back) (defScope s_turned_back) .none kV15 dc15 pm15 an15 cd15 ct15), sl15⟩) (c15 : PySem.W.codeIn K cd15 "turned_back" = true) (k15 : PySem.W.keepIn K (.ref f15) = true)
    (a16 : PySem.W.nsIn K mainGlobals "stretches" = some (some (.ref f16))) (l16 : K.lookup f16 = some ⟨oc16, od16, .func (PySem.W.fnOf "stretches" "stretches" (defArgs s_stretches) (defBody s_stretches) (defScope s_stretches) .none kV16 dc16 pm16 an16 cd16 ct16), sl16⟩) (c16 : PySem.W.codeIn K cd16 "stretches" = true) (k16 : PySem.W.keepIn K (.ref f16) = true)
    (a17 : PySem.W.nsIn K mainGlobals "all_within" = some (some (.ref f17))) (l17 : K.lookup f17 = some ⟨oc17, od17, .func (PySem.W.fnOf "all_within" "all_within" (defArgs s_all_within) (defBody s_all_within) (defScope s_all_within) .none kV17 dc17 pm17 an17 cd17 ct17), sl17⟩) (c17 : PySem.W.codeIn K cd17 "all_within" = true) (k17 : PySem.W.keepIn K (.ref f17) = true)
    (a18 : PySem.W.nsIn K mainGlobals "cut_by" = some (some (.ref f18))) (l18 : K.lookup f18 = some ⟨oc18, od18, .func (PySem.W.fnOf "cut_by" "cut_by" (defArgs s_cut_by) (defBody s_cut_by) (defScope s_cut_by) .none kV18 dc18 pm18 an18 cd18 ct18), sl18⟩) (c18 : PySem.W.codeIn K cd18 "cut_by" = true) (k18 : PySem.W.keepIn K (.ref f18) = true)
    (a19 : PySem.W.nsIn K mainGlobals "exchanged" = some (some (.ref f19))) (l19 : K.lookup f19 = some ⟨oc19, od19, .func (PySem.W.fnOf "exchanged" "exchanged" (defArgs s_exchanged) (defBody s_exchanged) (defScope s_exchanged) .none kV19 dc19 pm19 an19 cd19 ct19), sl19⟩) (c19 : PySem.W.codeIn K cd19 "exchanged" = true) (k19 : PySem.W.keepIn K (.ref f19) = true)
    (a20 : PySem.W.nsIn K mainGlobals "product_of" = some (some (.ref f20))) (l20 : K.lookup f20 = some ⟨oc20, od20, .func (PySem.W.fnOf "product_of" "product_of" (defArgs s_product_of) (defBody s_product_of) (defScope s_product_of) .none kV20 dc20 pm20 an20 cd20 ct20), sl20⟩) (c20 : PySem.W.codeIn K cd20 "product_of" = true) (k20 : PySem.W.keepIn K (.ref f20) = true)
    (a21 : PySem.W.nsIn K mainGlobals "shares_of" = some (some (.ref f21))) (l21 : K.lookup f21 = some ⟨oc21, od21, .func (PySem.W.fnOf "shares_of" "shares_of" (defArgs s_shares_of) (defBody s_shares_of) (defScope s_shares_of) .none kV21 dc21 pm21 an21 cd21 ct21), sl21⟩) (c21 : PySem.W.codeIn K cd21 "shares_of" = true) (k21 : PySem.W.keepIn K (.ref f21) = true)
    (a22 : PySem.W.nsIn K mainGlobals "led_down" = some (some (.ref f22))) (l22 : K.lookup f22 = some ⟨oc22, od22, .func (PySem.W.fnOf "led_down" "led_down" (defArgs s_led_down) (defBody s_led_down) (defScope s_led_down) .none kV22 dc22 pm22 an22 cd22 ct22), sl22⟩) (c22 : PySem.W.codeIn K cd22 "led_down" = true) (k22 : PySem.W.keepIn K (.ref f22) = true)
    (a23 : PySem.W.nsIn K mainGlobals "size_of_short" = some (some (.ref f23))) (l23 : K.lookup f23 = some ⟨oc23, od23, .func (PySem.W.fnOf "size_of" "size_of" (defArgs s_size_of) (defBody s_size_of) (defScope s_size_of) .none kV23 dc23 pm23 an23 cd23 ct23), sl23⟩) (c23 : PySem.W.codeIn K cd23 "size_of" = true) (k23 : PySem.W.keepIn K (.ref f23) = true)
    (a24 : PySem.W.nsIn K mainGlobals "shortest" = some (some (.ref f24))) (l24 : K.lookup f24 = some ⟨oc24, od24, .func (PySem.W.fnOf "shortest" "shortest" (defArgs s_shortest_2) (defBody s_shortest_2) (defScope s_shortest_2) .none kV24 dc24 pm24 an24 cd24 ct24), sl24⟩) (c24 : PySem.W.codeIn K cd24 "shortest" = true) (k24 : PySem.W.keepIn K (.ref f24) = true)
    (a25 : PySem.W.nsIn K mainGlobals "size_of_papers" = some (some (.ref f25))) (l25 : K.lookup f25 = some ⟨oc25, od25, .func (PySem.W.fnOf "size_of" "size_of" (defArgs s_size_of_b) (defBody s_size_of_b) (defScope s_size_of_b) .none kV25 dc25 pm25 an25 cd25 ct25), sl25⟩) (c25 : PySem.W.codeIn K cd25 "size_of" = true) (k25 : PySem.W.keepIn K (.ref f25) = true)
    (a26 : PySem.W.nsIn K mainGlobals "least_paper" = some (some (.ref f26))) (l26 : K.lookup f26 = some ⟨oc26, od26, .func (PySem.W.fnOf "least_paper" "least_paper" (defArgs s_least_paper_x) (defBody s_least_paper_x) (defScope s_least_paper_x) .none kV26 dc26 pm26 an26 cd26 ct26), sl26⟩) (c26 : PySem.W.codeIn K cd26 "least_paper" = true) (k26 : PySem.W.keepIn K (.ref f26) = true)
    (a27 : PySem.W.nsIn K mainGlobals "how_many_sums" = some (some (.ref f27))) (l27 : K.lookup f27 = some ⟨oc27, od27, .func (PySem.W.fnOf "how_many_sums" "how_many_sums" (defArgs s_how_many_sums) (defBody s_how_many_sums) (defScope s_how_many_sums) .none kV27 dc27 pm27 an27 cd27 ct27), sl27⟩) (c27 : PySem.W.codeIn K cd27 "how_many_sums" = true) (k27 : PySem.W.keepIn K (.ref f27) = true)
    (a28 : PySem.W.nsIn K mainGlobals "added" = some (some (.ref f28))) (l28 : K.lookup f28 = some ⟨oc28, od28, .func (PySem.W.fnOf "added" "added" (defArgs s_added) (defBody s_added) (defScope s_added) .none kV28 dc28 pm28 an28 cd28 ct28), sl28⟩) (c28 : PySem.W.codeIn K cd28 "added" = true) (k28 : PySem.W.keepIn K (.ref f28) = true)
    (a29 : PySem.W.nsIn K mainGlobals "sums_within" = some (some (.ref f29))) (l29 : K.lookup f29 = some ⟨oc29, od29, .func (PySem.W.fnOf "sums_within" "sums_within" (defArgs s_sums_within) (defBody s_sums_within) (defScope s_sums_within) .none kV29 dc29 pm29 an29 cd29 ct29), sl29⟩) (c29 : PySem.W.codeIn K cd29 "sums_within" = true) (k29 : PySem.W.keepIn K (.ref f29) = true)
    (a30 : PySem.W.nsIn K mainGlobals "least_shown" = some (some (.ref f30))) (l30 : K.lookup f30 = some ⟨oc30, od30, .func (PySem.W.fnOf "least_shown" "least_shown" (defArgs s_least_shown_2_x) (defBody s_least_shown_2_x) (defScope s_least_shown_2_x) .none kV30 dc30 pm30 an30 cd30 ct30), sl30⟩) (c30 : PySem.W.codeIn K cd30 "least_shown" = true) (k30 : PySem.W.keepIn K (.ref f30) = true)
    (a31 : PySem.W.nsIn K mainGlobals "_law_refused" = some (some (.ref f31))) (l31 : K.lookup f31 = some ⟨oc31, od31, .func (PySem.W.fnOf "_law_refused" "_law_refused" (defArgs s_law_refused_2) (defBody s_law_refused_2) (defScope s_law_refused_2) .none kV31 dc31 pm31 an31 cd31 ct31), sl31⟩) (c31 : PySem.W.codeIn K cd31 "_law_refused" = true) (k31 : PySem.W.keepIn K (.ref f31) = true)
    (a32 : PySem.W.nsIn K mainGlobals "_law_number" = some (some (.ref f32))) (l32 : K.lookup f32 = some ⟨oc32, od32, .func (PySem.W.fnOf "_law_number" "_law_number" (defArgs s_law_number_2) (defBody s_law_number_2) (defScope s_law_number_2) .none kV32 dc32 pm32 an32 cd32 ct32), sl32⟩) (c32 : PySem.W.codeIn K cd32 "_law_number" = true) (k32 : PySem.W.keepIn K (.ref f32) = true)
    (a33 : PySem.W.nsIn K mainGlobals "_law_without" = some (some (.ref f33))) (l33 : K.lookup f33 = some ⟨oc33, od33, .func (PySem.W.fnOf "_law_without" "_law_without" (defArgs s_law_without) (defBody s_law_without) (defScope s_law_without) .none kV33 dc33 pm33 an33 cd33 ct33), sl33⟩) (c33 : PySem.W.codeIn K cd33 "_law_without" = true) (k33 : PySem.W.keepIn K (.ref f33) = true)
    (a34 : PySem.W.nsIn K mainGlobals "_law_spanned" = some (some (.ref f34))) (l34 : K.lookup f34 = some ⟨oc34, od34, .func (PySem.W.fnOf "_law_spanned" "_law_spanned" (defArgs s_law_spanned) (defBody s_law_spanned) (defScope s_law_spanned) .none kV34 dc34 pm34 an34 cd34 ct34), sl34⟩) (c34 : PySem.W.codeIn K cd34 "_law_spanned" = true) (k34 : PySem.W.keepIn K (.ref f34) = true)
    (a35 : PySem.W.nsIn K mainGlobals "_law_rows" = some (some (.ref f35))) (l35 : K.lookup f35 = some ⟨oc35, od35, .func (PySem.W.fnOf "_law_rows" "_law_rows" (defArgs s_law_rows_3) (defBody s_law_rows_3) (defScope s_law_rows_3) .none kV35 dc35 pm35 an35 cd35 ct35), sl35⟩) (c35 : PySem.W.codeIn K cd35 "_law_rows" = true) (k35 : PySem.W.keepIn K (.ref f35) = true)
    (a36 : PySem.W.nsIn K mainGlobals "law" = some (some (.ref f36))) (l36 : K.lookup f36 = some ⟨oc36, od36, .func (PySem.W.fnOf "law" "law" (defArgs s_law_27) (defBody s_law_27) (defScope s_law_27) .none kV36 dc36 pm36 an36 cd36 ct36), sl36⟩) (c36 : PySem.W.codeIn K cd36 "law" = true) (k36 : PySem.W.keepIn K (.ref f36) = true)
    (z_abs : PySem.W.nsIn K mainGlobals "abs" = some none)
    (z_enumerate : PySem.W.nsIn K mainGlobals "enumerate" = some none)
    (z_int : PySem.W.nsIn K mainGlobals "int" = some none)
    (z_isinstance : PySem.W.nsIn K mainGlobals "isinstance" = some none)
    (z_len : PySem.W.nsIn K mainGlobals "len" = some none)
    (z_list : PySem.W.nsIn K mainGlobals "list" = some none)
    (z_max : PySem.W.nsIn K mainGlobals "max" = some none)
    (z_min : PySem.W.nsIn K mainGlobals "min" = some none)
    (z_range : PySem.W.nsIn K mainGlobals "range" = some none)
    (z_str : PySem.W.nsIn K mainGlobals "str" = some none)
    (z_sum : PySem.W.nsIn K mainGlobals "sum" = some none)
    (z_tuple : PySem.W.nsIn K mainGlobals "tuple" = some none)
    (z_zip : PySem.W.nsIn K mainGlobals "zip" = some none)
    {tk_MOST_SUMS : Tok} (g_MOST_SUMS : PySem.W.nsIn K mainGlobals "MOST_SUMS" = some (some (.int 20000 tk_MOST_SUMS)))
    {e_NoAsking : Addr} (n_NoAsking : PySem.W.nsIn K mainGlobals "NoAsking" = some (some (.ref e_NoAsking))) (hd_NoAsking : PySem.W.hasDictIn K e_NoAsking = true) (t_NoAsking : PySem.W.typeIn K (.ref e_NoAsking) = some (.type "type")) (b_NoAsking : PySem.W.subIn K (.ref e_NoAsking) (.type "BaseException") = some true)
    {e_NoNumber : Addr} (n_NoNumber : PySem.W.nsIn K mainGlobals "NoNumber" = some (some (.ref e_NoNumber))) (hd_NoNumber : PySem.W.hasDictIn K e_NoNumber = true) (t_NoNumber : PySem.W.typeIn K (.ref e_NoNumber) = some (.type "type")) (b_NoNumber : PySem.W.subIn K (.ref e_NoNumber) (.type "BaseException") = some true)
    {e_NoText : Addr} (n_NoText : PySem.W.nsIn K mainGlobals "NoText" = some (some (.ref e_NoText))) (hd_NoText : PySem.W.hasDictIn K e_NoText = true) (t_NoText : PySem.W.typeIn K (.ref e_NoText) = some (.type "type")) (b_NoText : PySem.W.subIn K (.ref e_NoText) (.type "BaseException") = some true)
    {e_NoLattice : Addr} (n_NoLattice : PySem.W.nsIn K mainGlobals "NoLattice" = some (some (.ref e_NoLattice))) (hd_NoLattice : PySem.W.hasDictIn K e_NoLattice = true) (t_NoLattice : PySem.W.typeIn K (.ref e_NoLattice) = some (.type "type")) (b_NoLattice : PySem.W.subIn K (.ref e_NoLattice) (.type "BaseException") = some true)
    {e_NoAsk : Addr} (n_NoAsk : PySem.W.nsIn K mainGlobals "NoAsk" = some (some (.ref e_NoAsk))) (hd_NoAsk : PySem.W.hasDictIn K e_NoAsk = true) (t_NoAsk : PySem.W.typeIn K (.ref e_NoAsk) = some (.type "type")) (b_NoAsk : PySem.W.subIn K (.ref e_NoAsk) (.type "BaseException") = some true)
    {e_UnderError : Addr} (n_UnderError : PySem.W.nsIn K mainGlobals "UnderError" = some (some (.ref e_UnderError))) (hd_UnderError : PySem.W.hasDictIn K e_UnderError = true) (t_UnderError : PySem.W.typeIn K (.ref e_UnderError) = some (.type "type")) (b_UnderError : PySem.W.subIn K (.ref e_UnderError) (.type "BaseException") = some true)
    (hn : PySem.W.specialIn K (.builtin "object.__class__") "__get__" = some (some (.builtin "getset_descriptor.__get__"))) (ht : PySem.W.takesIn K (.builtin "object.__class__") = some true) (z_ValueError : PySem.W.nsIn K mainGlobals "ValueError" = some none)
    (x_NoAsking : PySem.W.excIn K e_NoAsking [.type "ValueError", .type "Exception", .type "BaseException", .type "object"] "ValueError.__new__" = true) (k_NoAsking : PySem.W.keepIn K (.ref e_NoAsking) = true) (hg_NoAsking : PySem.W.findIn K (.ref e_NoAsking) "__getattribute__" = some (some (.builtin "BaseException.__getattribute__"))) (hk_NoAsking : PySem.W.findIn K (.ref e_NoAsking) "__getattr__" = some none) (ha_NoAsking : PySem.W.findIn K (.ref e_NoAsking) "__class__" = some (some (.builtin "object.__class__"))) (hm_NoAsking : PySem.W.mroIn K e_NoAsking (.type "object") = some true) (v_NoAsking : PySem.W.subIn K (.ref e_NoAsking) (.type "ValueError") = some true)
    (s_NoAsking_NoAsking : PySem.W.subIn K (.ref e_NoAsking) (.ref e_NoAsking) = some true)
    (s_NoAsking_NoNumber : PySem.W.subIn K (.ref e_NoAsking) (.ref e_NoNumber) = some false)
    (s_NoAsking_NoText : PySem.W.subIn K (.ref e_NoAsking) (.ref e_NoText) = some false)
    (s_NoAsking_NoLattice : PySem.W.subIn K (.ref e_NoAsking) (.ref e_NoLattice) = some false)
    (s_NoAsking_NoAsk : PySem.W.subIn K (.ref e_NoAsking) (.ref e_NoAsk) = some false)
    (s_NoAsking_UnderError : PySem.W.subIn K (.ref e_NoAsking) (.ref e_UnderError) = some true)
    (x_NoNumber : PySem.W.excIn K e_NoNumber [.type "ValueError", .type "Exception", .type "BaseException", .type "object"] "ValueError.__new__" = true) (k_NoNumber : PySem.W.keepIn K (.ref e_NoNumber) = true) (hg_NoNumber : PySem.W.findIn K (.ref e_NoNumber) "__getattribute__" = some (some (.builtin "BaseException.__getattribute__"))) (hk_NoNumber : PySem.W.findIn K (.ref e_NoNumber) "__getattr__" = some none) (ha_NoNumber : PySem.W.findIn K (.ref e_NoNumber) "__class__" = some (some (.builtin "object.__class__"))) (hm_NoNumber : PySem.W.mroIn K e_NoNumber (.type "object") = some true) (v_NoNumber : PySem.W.subIn K (.ref e_NoNumber) (.type "ValueError") = some true)
    (s_NoNumber_NoAsking : PySem.W.subIn K (.ref e_NoNumber) (.ref e_NoAsking) = some false)
    (s_NoNumber_NoNumber : PySem.W.subIn K (.ref e_NoNumber) (.ref e_NoNumber) = some true)
    (s_NoNumber_NoText : PySem.W.subIn K (.ref e_NoNumber) (.ref e_NoText) = some false)
    (s_NoNumber_NoLattice : PySem.W.subIn K (.ref e_NoNumber) (.ref e_NoLattice) = some false)
    (s_NoNumber_NoAsk : PySem.W.subIn K (.ref e_NoNumber) (.ref e_NoAsk) = some false)
    (s_NoNumber_UnderError : PySem.W.subIn K (.ref e_NoNumber) (.ref e_UnderError) = some true)
    (x_NoText : PySem.W.excIn K e_NoText [.type "ValueError", .type "Exception", .type "BaseException", .type "object"] "ValueError.__new__" = true) (k_NoText : PySem.W.keepIn K (.ref e_NoText) = true) (hg_NoText : PySem.W.findIn K (.ref e_NoText) "__getattribute__" = some (some (.builtin "BaseException.__getattribute__"))) (hk_NoText : PySem.W.findIn K (.ref e_NoText) "__getattr__" = some none) (ha_NoText : PySem.W.findIn K (.ref e_NoText) "__class__" = some (some (.builtin "object.__class__"))) (hm_NoText : PySem.W.mroIn K e_NoText (.type "object") = some true) (v_NoText : PySem.W.subIn K (.ref e_NoText) (.type "ValueError") = some true)
    (s_NoText_NoAsking : PySem.W.subIn K (.ref e_NoText) (.ref e_NoAsking) = some false)
    (s_NoText_NoNumber : PySem.W.subIn K (.ref e_NoText) (.ref e_NoNumber) = some false)
    (s_NoText_NoText : PySem.W.subIn K (.ref e_NoText) (.ref e_NoText) = some true)
    (s_NoText_NoLattice : PySem.W.subIn K (.ref e_NoText) (.ref e_NoLattice) = some false)
    (s_NoText_NoAsk : PySem.W.subIn K (.ref e_NoText) (.ref e_NoAsk) = some false)
    (s_NoText_UnderError : PySem.W.subIn K (.ref e_NoText) (.ref e_UnderError) = some true)
    (x_NoLattice : PySem.W.excIn K e_NoLattice [.type "ValueError", .type "Exception", .type "BaseException", .type "object"] "ValueError.__new__" = true) (k_NoLattice : PySem.W.keepIn K (.ref e_NoLattice) = true) (hg_NoLattice : PySem.W.findIn K (.ref e_NoLattice) "__getattribute__" = some (some (.builtin "BaseException.__getattribute__"))) (hk_NoLattice : PySem.W.findIn K (.ref e_NoLattice) "__getattr__" = some none) (ha_NoLattice : PySem.W.findIn K (.ref e_NoLattice) "__class__" = some (some (.builtin "object.__class__"))) (hm_NoLattice : PySem.W.mroIn K e_NoLattice (.type "object") = some true) (v_NoLattice : PySem.W.subIn K (.ref e_NoLattice) (.type "ValueError") = some true)
    (s_NoLattice_NoAsking : PySem.W.subIn K (.ref e_NoLattice) (.ref e_NoAsking) = some false)
    (s_NoLattice_NoNumber : PySem.W.subIn K (.ref e_NoLattice) (.ref e_NoNumber) = some false)
    (s_NoLattice_NoText : PySem.W.subIn K (.ref e_NoLattice) (.ref e_NoText) = some false)
    (s_NoLattice_NoLattice : PySem.W.subIn K (.ref e_NoLattice) (.ref e_NoLattice) = some true)
    (s_NoLattice_NoAsk : PySem.W.subIn K (.ref e_NoLattice) (.ref e_NoAsk) = some false)
    (s_NoLattice_UnderError : PySem.W.subIn K (.ref e_NoLattice) (.ref e_UnderError) = some true)
    (x_NoAsk : PySem.W.excIn K e_NoAsk [.type "ValueError", .type "Exception", .type "BaseException", .type "object"] "ValueError.__new__" = true) (k_NoAsk : PySem.W.keepIn K (.ref e_NoAsk) = true) (hg_NoAsk : PySem.W.findIn K (.ref e_NoAsk) "__getattribute__" = some (some (.builtin "BaseException.__getattribute__"))) (hk_NoAsk : PySem.W.findIn K (.ref e_NoAsk) "__getattr__" = some none) (ha_NoAsk : PySem.W.findIn K (.ref e_NoAsk) "__class__" = some (some (.builtin "object.__class__"))) (hm_NoAsk : PySem.W.mroIn K e_NoAsk (.type "object") = some true) (v_NoAsk : PySem.W.subIn K (.ref e_NoAsk) (.type "ValueError") = some true)
    (s_NoAsk_NoAsking : PySem.W.subIn K (.ref e_NoAsk) (.ref e_NoAsking) = some false)
    (s_NoAsk_NoNumber : PySem.W.subIn K (.ref e_NoAsk) (.ref e_NoNumber) = some false)
    (s_NoAsk_NoText : PySem.W.subIn K (.ref e_NoAsk) (.ref e_NoText) = some false)
    (s_NoAsk_NoLattice : PySem.W.subIn K (.ref e_NoAsk) (.ref e_NoLattice) = some false)
    (s_NoAsk_NoAsk : PySem.W.subIn K (.ref e_NoAsk) (.ref e_NoAsk) = some true)
    (s_NoAsk_UnderError : PySem.W.subIn K (.ref e_NoAsk) (.ref e_UnderError) = some true) :
    ∃ fd : FuncData, (∀ (s : Shared) (v : Value), BindsTo s fd ⟨[v], []⟩ [("_law_script", v)]) ∧ ∀ base : Heap, K.In base → base.Ns mainGlobals mg → FnOk l.prog w K mg base CX0 16 fa fd ["_law_script"] (lift K spLaw) := by
  have e := hfa.symm.trans (PySem.W.mg_of X G a36)
  cases e
  have F0 := fun_mk (st := s_law_draw_1) l0 c0 k0
  have F1 := fun_mk (st := s_taken_off) l1 c1 k1
  have F2 := fun_mk (st := s_stepped) l2 c2 k2
  have F3 := fun_mk (st := s_measure_of) l3 c3 k3
  have F4 := fun_mk (st := s_is_square) l4 c4 k4
  have F5 := fun_mk (st := s_is_lattice) l5 c5 k5
  have F6 := fun_mk (st := s_need_lattice_x) l6 c6 k6
  have F7 := fun_mk (st := s_measure_x) l7 c7 k7
  have F8 := fun_mk (st := s_minor_of) l8 c8 k8
  have F9 := fun_mk (st := s_span_of) l9 c9 k9
  have F10 := fun_mk (st := s_least_bounds_x) l10 c10 k10
  have F11 := fun_mk (st := s_determinant) l11 c11 k11
  have F12 := fun_mk (st := s_multiples) l12 c12 k12
  have F13 := fun_mk (st := s_put_to) l13 c13 k13
  have F14 := fun_mk (st := s_stretch_in) l14 c14 k14
  have F15 := fun_mk (st := s_turned_back) l15 c15 k15
  have F16 := fun_mk (st := s_stretches) l16 c16 k16
  have F17 := fun_mk (st := s_all_within) l17 c17 k17
  have F18 := fun_mk (st := s_cut_by) l18 c18 k18
  have F19 := fun_mk (st := s_exchanged) l19 c19 k19
  have F20 := fun_mk (st := s_product_of) l20 c20 k20
  have F21 := fun_mk (st := s_shares_of) l21 c21 k21
  have F22 := fun_mk (st := s_led_down) l22 c22 k22
  have F23 := fun_mk (st := s_size_of) l23 c23 k23
  have F24 := fun_mk (st := s_shortest_2) l24 c24 k24
  have F25 := fun_mk (st := s_size_of_b) l25 c25 k25
  have F26 := fun_mk (st := s_least_paper_x) l26 c26 k26
  have F27 := fun_mk (st := s_how_many_sums) l27 c27 k27
  have F28 := fun_mk (st := s_added) l28 c28 k28
  have F29 := fun_mk (st := s_sums_within) l29 c29 k29
  have F30 := fun_mk (st := s_least_shown_2_x) l30 c30 k30
  have F31 := fun_mk (st := s_law_refused_2) l31 c31 k31
  have F32 := fun_mk (st := s_law_number_2) l32 c32 k32
  have F33 := fun_mk (st := s_law_without) l33 c33 k33
  have F34 := fun_mk (st := s_law_spanned) l34 c34 k34
  have F35 := fun_mk (st := s_law_rows_3) l35 c35 k35
  have F36 := fun_mk (st := s_law_27) l36 c36 k36
  have b0 := F0.binds (ps := ["_law_script", "_law_k"]) fun _ _ _ _ _ _ us hl => match us, hl with | [_, _], _ => rfl
  have m0 := PySem.W.mg_of X G a0
  have b1 := F1.binds (ps := ["row", "many", "other"]) fun _ _ _ _ _ _ us hl => match us, hl with | [_, _, _], _ => rfl
  have m1 := PySem.W.mg_of X G a1
  have b2 := F2.binds (ps := ["rows"]) fun _ _ _ _ _ _ us hl => match us, hl with | [_], _ => rfl
  have m2 := PySem.W.mg_of X G a2
  have b3 := F3.binds (ps := ["rows"]) fun _ _ _ _ _ _ us hl => match us, hl with | [_], _ => rfl
  have m3 := PySem.W.mg_of X G a3
  have b4 := F4.binds (ps := ["rows"]) fun _ _ _ _ _ _ us hl => match us, hl with | [_], _ => rfl
  have m4 := PySem.W.mg_of X G a4
  have b5 := F5.binds (ps := ["rows"]) fun _ _ _ _ _ _ us hl => match us, hl with | [_], _ => rfl
  have m5 := PySem.W.mg_of X G a5
  have b6 := F6.binds (ps := ["rows"]) fun _ _ _ _ _ _ us hl => match us, hl with | [_], _ => rfl
  have m6 := PySem.W.mg_of X G a6
  have b7 := F7.binds (ps := ["rows"]) fun _ _ _ _ _ _ us hl => match us, hl with | [_], _ => rfl
  have m7 := PySem.W.mg_of X G a7
  have b8 := F8.binds (ps := ["rows", "skip_row", "skip_place"]) fun _ _ _ _ _ _ us hl => match us, hl with | [_, _, _], _ => rfl
  have m8 := PySem.W.mg_of X G a8
  have b9 := F9.binds (ps := ["rows"]) fun _ _ _ _ _ _ us hl => match us, hl with | [_], _ => rfl
  have m9 := PySem.W.mg_of X G a9
  have b10 := F10.binds (ps := ["rows", "size"]) fun _ _ _ _ _ _ us hl => match us, hl with | [_, _], _ => rfl
  have m10 := PySem.W.mg_of X G a10
  have b11 := F11.binds (ps := ["rows"]) fun _ _ _ _ _ _ us hl => match us, hl with | [_], _ => rfl
  have m11 := PySem.W.mg_of X G a11
  have b12 := F12.binds (ps := ["own", "whole", "lows", "highs"]) fun _ _ _ _ _ _ us hl => match us, hl with | [_, _, _, _], _ => rfl
  have m12 := PySem.W.mg_of X G a12
  have b13 := F13.binds (ps := ["sums", "row", "least", "most"]) fun _ _ _ _ _ _ us hl => match us, hl with | [_, _, _, _], _ => rfl
  have m13 := PySem.W.mg_of X G a13
  have b14 := F14.binds (ps := ["start", "row", "lows", "highs"]) fun _ _ _ _ _ _ us hl => match us, hl with | [_, _, _, _], _ => rfl
  have m14 := PySem.W.mg_of X G a14
  have b15 := F15.binds (ps := ["rows"]) fun _ _ _ _ _ _ us hl => match us, hl with | [_], _ => rfl
  have m15 := PySem.W.mg_of X G a15
  have b16 := F16.binds (ps := ["rows", "lows", "highs"]) fun _ _ _ _ _ _ us hl => match us, hl with | [_, _, _], _ => rfl
  have m16 := PySem.W.mg_of X G a16
  have b17 := F17.binds (ps := ["rows", "lows", "highs"]) fun _ _ _ _ _ _ us hl => match us, hl with | [_, _, _], _ => rfl
  have m17 := PySem.W.mg_of X G a17
  have b18 := F18.binds (ps := ["rows", "shares", "spans", "at", "place"]) fun _ _ _ _ _ _ us hl => match us, hl with | [_, _, _, _, _], _ => rfl
  have m18 := PySem.W.mg_of X G a18
  have b19 := F19.binds (ps := ["rows", "shares", "spans", "at"]) fun _ _ _ _ _ _ us hl => match us, hl with | [_, _, _, _], _ => rfl
  have m19 := PySem.W.mg_of X G a19
  have b20 := F20.binds (ps := ["one", "other"]) fun _ _ _ _ _ _ us hl => match us, hl with | [_, _], _ => rfl
  have m20 := PySem.W.mg_of X G a20
  have b21 := F21.binds (ps := ["rows"]) fun _ _ _ _ _ _ us hl => match us, hl with | [_], _ => rfl
  have m21 := PySem.W.mg_of X G a21
  have b22 := F22.binds (ps := ["rows"]) fun _ _ _ _ _ _ us hl => match us, hl with | [_], _ => rfl
  have m22 := PySem.W.mg_of X G a22
  have b23 := F23.binds (ps := ["row"]) fun _ _ _ _ _ _ us hl => match us, hl with | [_], _ => rfl
  have m23 := PySem.W.mg_of X G a23
  have b24 := F24.binds (ps := ["rows"]) fun _ _ _ _ _ _ us hl => match us, hl with | [_], _ => rfl
  have m24 := PySem.W.mg_of X G a24
  have b25 := F25.binds (ps := ["row"]) fun _ _ _ _ _ _ us hl => match us, hl with | [_], _ => rfl
  have m25 := PySem.W.mg_of X G a25
  have b26 := F26.binds (ps := ["rows", "size"]) fun _ _ _ _ _ _ us hl => match us, hl with | [_, _], _ => rfl
  have m26 := PySem.W.mg_of X G a26
  have b27 := F27.binds (ps := ["bounds"]) fun _ _ _ _ _ _ us hl => match us, hl with | [_], _ => rfl
  have m27 := PySem.W.mg_of X G a27
  have b28 := F28.binds (ps := ["one", "row", "times"]) fun _ _ _ _ _ _ us hl => match us, hl with | [_, _, _], _ => rfl
  have m28 := PySem.W.mg_of X G a28
  have b29 := F29.binds (ps := ["rows", "bounds"]) fun _ _ _ _ _ _ us hl => match us, hl with | [_, _], _ => rfl
  have m29 := PySem.W.mg_of X G a29
  have b30 := F30.binds (ps := ["rows", "size", "bounds"]) fun _ _ _ _ _ _ us hl => match us, hl with | [_, _, _], _ => rfl
  have m30 := PySem.W.mg_of X G a30
  have b31 := F31.binds (ps := ["_law_rows_here", "_law_size_here", "_law_bounds_here"]) fun _ _ _ _ _ _ us hl => match us, hl with | [_, _, _], _ => rfl
  have m31 := PySem.W.mg_of X G a31
  have b32 := F32.binds (ps := ["_law_script", "_law_at", "_law_most"]) fun _ _ _ _ _ _ us hl => match us, hl with | [_, _, _], _ => rfl
  have m32 := PySem.W.mg_of X G a32
  have b33 := F33.binds (ps := ["_law_rows_here", "_law_skip_row", "_law_skip_place"]) fun _ _ _ _ _ _ us hl => match us, hl with | [_, _, _], _ => rfl
  have m33 := PySem.W.mg_of X G a33
  have b34 := F34.binds (ps := ["_law_rows_here"]) fun _ _ _ _ _ _ us hl => match us, hl with | [_], _ => rfl
  have m34 := PySem.W.mg_of X G a34
  have b35 := F35.binds (ps := ["_law_script", "_law_at", "_law_most"]) fun _ _ _ _ _ _ us hl => match us, hl with | [_, _, _], _ => rfl
  have m35 := PySem.W.mg_of X G a35
  have B_abs := PySem.W.mg_none_of X G z_abs
  have B_enumerate := PySem.W.mg_none_of X G z_enumerate
  have B_int := PySem.W.mg_none_of X G z_int
  have B_isinstance := PySem.W.mg_none_of X G z_isinstance
  have B_len := PySem.W.mg_none_of X G z_len
  have B_list := PySem.W.mg_none_of X G z_list
  have B_max := PySem.W.mg_none_of X G z_max
  have B_min := PySem.W.mg_none_of X G z_min
  have B_range := PySem.W.mg_none_of X G z_range
  have B_str := PySem.W.mg_none_of X G z_str
  have B_sum := PySem.W.mg_none_of X G z_sum
  have B_tuple := PySem.W.mg_none_of X G z_tuple
  have B_zip := PySem.W.mg_none_of X G z_zip
  have GL_MOST_SUMS : ∃ u, mg "MOST_SUMS" = some u ∧ RelV (.int 20000) u := ⟨_, PySem.W.mg_of X G g_MOST_SUMS, _, rfl⟩
  have g_NoAsking := PySem.W.mg_of X G n_NoAsking
  have g_NoNumber := PySem.W.mg_of X G n_NoNumber
  have g_NoText := PySem.W.mg_of X G n_NoText
  have g_NoLattice := PySem.W.mg_of X G n_NoLattice
  have g_NoAsk := PySem.W.mg_of X G n_NoAsk
  have g_UnderError := PySem.W.mg_of X G n_UnderError
  have ER : ErrOk K mg := by
    refine ⟨fun n hn2 => ?_, by rw [cOf_eq g_UnderError]; exact g_UnderError, PySem.W.mg_none_of X G z_ValueError⟩
    rcases errN_cases hn2 with rfl | rfl | rfl | rfl | rfl
    · refine errC_of g_NoAsking g_UnderError x_NoAsking k_NoAsking b_NoAsking t_NoAsking hd_NoAsking hg_NoAsking hk_NoAsking ha_NoAsking hn ht hm_NoAsking s_NoAsking_UnderError b_UnderError hd_UnderError t_UnderError s_NoAsking_NoAsking v_NoAsking fun m hm2 => ?_
      rcases hm2 with hm2 | rfl
      · rcases errN_cases hm2 with rfl | rfl | rfl | rfl | rfl
        · exact ⟨_, g_NoAsking, hd_NoAsking, t_NoAsking, s_NoAsking_NoAsking.trans (by decide +kernel)⟩
        · exact ⟨_, g_NoNumber, hd_NoNumber, t_NoNumber, s_NoAsking_NoNumber.trans (by decide +kernel)⟩
        · exact ⟨_, g_NoText, hd_NoText, t_NoText, s_NoAsking_NoText.trans (by decide +kernel)⟩
        · exact ⟨_, g_NoLattice, hd_NoLattice, t_NoLattice, s_NoAsking_NoLattice.trans (by decide +kernel)⟩
        · exact ⟨_, g_NoAsk, hd_NoAsk, t_NoAsk, s_NoAsking_NoAsk.trans (by decide +kernel)⟩
      · exact ⟨_, g_UnderError, hd_UnderError, t_UnderError, s_NoAsking_UnderError.trans (by decide +kernel)⟩
    · refine errC_of g_NoNumber g_UnderError x_NoNumber k_NoNumber b_NoNumber t_NoNumber hd_NoNumber hg_NoNumber hk_NoNumber ha_NoNumber hn ht hm_NoNumber s_NoNumber_UnderError b_UnderError hd_UnderError t_UnderError s_NoNumber_NoNumber v_NoNumber fun m hm2 => ?_
      rcases hm2 with hm2 | rfl
      · rcases errN_cases hm2 with rfl | rfl | rfl | rfl | rfl
        · exact ⟨_, g_NoAsking, hd_NoAsking, t_NoAsking, s_NoNumber_NoAsking.trans (by decide +kernel)⟩
        · exact ⟨_, g_NoNumber, hd_NoNumber, t_NoNumber, s_NoNumber_NoNumber.trans (by decide +kernel)⟩
        · exact ⟨_, g_NoText, hd_NoText, t_NoText, s_NoNumber_NoText.trans (by decide +kernel)⟩
        · exact ⟨_, g_NoLattice, hd_NoLattice, t_NoLattice, s_NoNumber_NoLattice.trans (by decide +kernel)⟩
        · exact ⟨_, g_NoAsk, hd_NoAsk, t_NoAsk, s_NoNumber_NoAsk.trans (by decide +kernel)⟩
      · exact ⟨_, g_UnderError, hd_UnderError, t_UnderError, s_NoNumber_UnderError.trans (by decide +kernel)⟩
    · refine errC_of g_NoText g_UnderError x_NoText k_NoText b_NoText t_NoText hd_NoText hg_NoText hk_NoText ha_NoText hn ht hm_NoText s_NoText_UnderError b_UnderError hd_UnderError t_UnderError s_NoText_NoText v_NoText fun m hm2 => ?_
      rcases hm2 with hm2 | rfl
      · rcases errN_cases hm2 with rfl | rfl | rfl | rfl | rfl
        · exact ⟨_, g_NoAsking, hd_NoAsking, t_NoAsking, s_NoText_NoAsking.trans (by decide +kernel)⟩
        · exact ⟨_, g_NoNumber, hd_NoNumber, t_NoNumber, s_NoText_NoNumber.trans (by decide +kernel)⟩
        · exact ⟨_, g_NoText, hd_NoText, t_NoText, s_NoText_NoText.trans (by decide +kernel)⟩
        · exact ⟨_, g_NoLattice, hd_NoLattice, t_NoLattice, s_NoText_NoLattice.trans (by decide +kernel)⟩
        · exact ⟨_, g_NoAsk, hd_NoAsk, t_NoAsk, s_NoText_NoAsk.trans (by decide +kernel)⟩
      · exact ⟨_, g_UnderError, hd_UnderError, t_UnderError, s_NoText_UnderError.trans (by decide +kernel)⟩
    · refine errC_of g_NoLattice g_UnderError x_NoLattice k_NoLattice b_NoLattice t_NoLattice hd_NoLattice hg_NoLattice hk_NoLattice ha_NoLattice hn ht hm_NoLattice s_NoLattice_UnderError b_UnderError hd_UnderError t_UnderError s_NoLattice_NoLattice v_NoLattice fun m hm2 => ?_
      rcases hm2 with hm2 | rfl
      · rcases errN_cases hm2 with rfl | rfl | rfl | rfl | rfl
        · exact ⟨_, g_NoAsking, hd_NoAsking, t_NoAsking, s_NoLattice_NoAsking.trans (by decide +kernel)⟩
        · exact ⟨_, g_NoNumber, hd_NoNumber, t_NoNumber, s_NoLattice_NoNumber.trans (by decide +kernel)⟩
        · exact ⟨_, g_NoText, hd_NoText, t_NoText, s_NoLattice_NoText.trans (by decide +kernel)⟩
        · exact ⟨_, g_NoLattice, hd_NoLattice, t_NoLattice, s_NoLattice_NoLattice.trans (by decide +kernel)⟩
        · exact ⟨_, g_NoAsk, hd_NoAsk, t_NoAsk, s_NoLattice_NoAsk.trans (by decide +kernel)⟩
      · exact ⟨_, g_UnderError, hd_UnderError, t_UnderError, s_NoLattice_UnderError.trans (by decide +kernel)⟩
    · refine errC_of g_NoAsk g_UnderError x_NoAsk k_NoAsk b_NoAsk t_NoAsk hd_NoAsk hg_NoAsk hk_NoAsk ha_NoAsk hn ht hm_NoAsk s_NoAsk_UnderError b_UnderError hd_UnderError t_UnderError s_NoAsk_NoAsk v_NoAsk fun m hm2 => ?_
      rcases hm2 with hm2 | rfl
      · rcases errN_cases hm2 with rfl | rfl | rfl | rfl | rfl
        · exact ⟨_, g_NoAsking, hd_NoAsking, t_NoAsking, s_NoAsk_NoAsking.trans (by decide +kernel)⟩
        · exact ⟨_, g_NoNumber, hd_NoNumber, t_NoNumber, s_NoAsk_NoNumber.trans (by decide +kernel)⟩
        · exact ⟨_, g_NoText, hd_NoText, t_NoText, s_NoAsk_NoText.trans (by decide +kernel)⟩
        · exact ⟨_, g_NoLattice, hd_NoLattice, t_NoLattice, s_NoAsk_NoLattice.trans (by decide +kernel)⟩
        · exact ⟨_, g_NoAsk, hd_NoAsk, t_NoAsk, s_NoAsk_NoAsk.trans (by decide +kernel)⟩
      · exact ⟨_, g_UnderError, hd_UnderError, t_UnderError, s_NoAsk_UnderError.trans (by decide +kernel)⟩
  refine ⟨PySem.W.fnOf "law" "law" (defArgs s_law_27) (defBody s_law_27) (defScope s_law_27) .none kV36 dc36 pm36 an36 cd36 ct36, fun s v => .of_eq rfl, fun base _ _ => ?_⟩
  have C_law_draw_1 : Cal l.prog w K mg base "_law_draw" 1 ["_law_script", "_law_k"] sp_law_draw_1 := ⟨_, _, ok_law_draw_1 (k := 0) F0 B_len B_list B_max B_min B_range, m0, k0, b0⟩
  have C_taken_off : Cal l.prog w K mg base "taken_off" 1 ["row", "many", "other"] sp_taken_off := ⟨_, _, ok_taken_off (k := 0) F1 B_zip, m1, k1, b1⟩
  have C_stepped : Cal l.prog w K mg base "stepped" 2 ["rows"] sp_stepped := ⟨_, _, ok_stepped (k := 1) F2 B_len B_list B_range (C_taken_off.mono (by decide)), m2, k2, b2⟩
  have C_measure_of : Cal l.prog w K mg base "measure_of" 3 ["rows"] sp_measure_of := ⟨_, _, ok_measure_of (k := 2) F3 B_enumerate (C_stepped.mono (by decide)), m3, k3, b3⟩
  have C_is_square : Cal l.prog w K mg base "is_square" 1 ["rows"] sp_is_square := ⟨_, _, ok_is_square (k := 0) F4 B_len, m4, k4, b4⟩
  have C_is_lattice : Cal l.prog w K mg base "is_lattice" 4 ["rows"] sp_is_lattice := ⟨_, _, ok_is_lattice (k := 3) F5 (C_is_square.mono (by decide)) (C_measure_of.mono (by decide)), m5, k5, b5⟩
  have C_need_lattice_x : CalX l.prog w K mg base "need_lattice" 5 ["rows"] (sp_need_lattice_x (cOf mg)) := ⟨_, _, ok_need_lattice_x (k := 4) F6 (C_is_lattice.mono (by decide)) ER, m6, k6, b6⟩
  have C_measure_x : CalX l.prog w K mg base "measure" 6 ["rows"] (sp_measure_x (cOf mg)) := ⟨_, _, ok_measure_x (k := 5) F7 (C_measure_of.mono (by decide)) (C_need_lattice_x.mono (by decide)), m7, k7, b7⟩
  have C_minor_of : Cal l.prog w K mg base "minor_of" 1 ["rows", "skip_row", "skip_place"] sp_minor_of := ⟨_, _, ok_minor_of (k := 0) F8 B_enumerate B_tuple, m8, k8, b8⟩
  have C_span_of : Cal l.prog w K mg base "span_of" 10 ["rows"] (sp_span_of 8) := ⟨_, _, okn_span_of (k := 1) F9 m9 k9 b9 B_enumerate (C_minor_of.mono (by decide)) (fun _ _ _ h => z0_span_of h) 8, m9, k9, b9⟩
  have C_least_bounds_x : CalX l.prog w K mg base "least_bounds" 11 ["rows", "size"] (sp_least_bounds_x (cOf mg)) := ⟨_, _, ok_least_bounds_x (k := 10) F10 B_abs B_len B_range B_sum B_tuple (C_measure_x.mono (by decide)) (C_minor_of.mono (by decide)) (C_span_of.mono (by decide)), m10, k10, b10⟩
  have C_determinant : Cal l.prog w K mg base "determinant" 9 ["rows"] (sp_determinant 8) := ⟨_, _, okn_determinant (k := 0) F11 m11 k11 b11 B_enumerate (fun _ _ _ h => z0_determinant h) 8, m11, k11, b11⟩
  have C_multiples : Cal l.prog w K mg base "multiples" 1 ["own", "whole", "lows", "highs"] sp_multiples := ⟨_, _, ok_multiples (k := 0) F12 B_max B_min B_zip, m12, k12, b12⟩
  have C_put_to : Cal l.prog w K mg base "put_to" 2 ["sums", "row", "least", "most"] sp_put_to := ⟨_, _, ok_put_to (k := 1) F13 B_range (C_taken_off.mono (by decide)), m13, k13, b13⟩
  have C_stretch_in : Cal l.prog w K mg base "stretch_in" 1 ["start", "row", "lows", "highs"] sp_stretch_in := ⟨_, _, ok_stretch_in (k := 0) F14 B_abs B_max B_min B_zip, m14, k14, b14⟩
  have C_turned_back : Cal l.prog w K mg base "turned_back" 10 ["rows"] sp_turned_back := ⟨_, _, ok_turned_back (k := 9) F15 B_enumerate B_len B_range (C_determinant.mono (by decide)), m15, k15, b15⟩
  have C_stretches : Cal l.prog w K mg base "stretches" 11 ["rows", "lows", "highs"] sp_stretches := ⟨_, _, ok_stretches (k := 10) F16 B_len B_range (C_determinant.mono (by decide)) (C_multiples.mono (by decide)) (C_put_to.mono (by decide)) (C_stretch_in.mono (by decide)) (C_turned_back.mono (by decide)), m16, k16, b16⟩
  have C_all_within : Cal l.prog w K mg base "all_within" 12 ["rows", "lows", "highs"] sp_all_within := ⟨_, _, ok_all_within (k := 11) F17 B_range B_tuple (C_stretches.mono (by decide)) (C_taken_off.mono (by decide)), m17, k17, b17⟩
  have C_cut_by : Cal l.prog w K mg base "cut_by" 2 ["rows", "shares", "spans", "at", "place"] sp_cut_by := ⟨_, _, ok_cut_by (k := 1) F18 B_range (C_taken_off.mono (by decide)), m18, k18, b18⟩
  have C_exchanged : Cal l.prog w K mg base "exchanged" 1 ["rows", "shares", "spans", "at"] sp_exchanged := ⟨_, _, ok_exchanged (k := 0) F19 B_len B_range, m19, k19, b19⟩
  have C_product_of : Cal l.prog w K mg base "product_of" 1 ["one", "other"] sp_product_of := ⟨_, _, ok_product_of (k := 0) F20 B_sum B_zip, m20, k20, b20⟩
  have C_shares_of : Cal l.prog w K mg base "shares_of" 2 ["rows"] sp_shares_of := ⟨_, _, ok_shares_of (k := 1) F21 B_enumerate B_range (C_product_of.mono (by decide)), m21, k21, b21⟩
  have C_led_down : Cal l.prog w K mg base "led_down" 3 ["rows"] sp_led_down := ⟨_, _, ok_led_down (k := 2) F22 B_len B_list B_max B_range (C_cut_by.mono (by decide)) (C_exchanged.mono (by decide)) (C_shares_of.mono (by decide)), m22, k22, b22⟩
  have C_size_of : Cal l.prog w K mg base "size_of_short" 1 ["row"] sp_size_of := ⟨_, _, ok_size_of (k := 0) F23 B_abs B_max, m23, k23, b23⟩
  have C_shortest_2 : Cal l.prog w K mg base "shortest" 13 ["rows"] sp_shortest_2 := ⟨_, _, ok_shortest_2 (k := 12) F24 B_len B_min (C_all_within.mono (by decide)) (C_led_down.mono (by decide)) (C_need_lattice_x.mono (by decide)) (C_size_of.mono (by decide)), m24, k24, b24⟩
  have C_size_of_b : Cal l.prog w K mg base "size_of_papers" 1 ["row"] sp_size_of_b := ⟨_, _, ok_size_of_b (k := 0) F25 B_abs B_max, m25, k25, b25⟩
  have C_least_paper_x : CalX l.prog w K mg base "least_paper" 14 ["rows", "size"] (sp_least_paper_x (cOf mg)) := ⟨_, _, ok_least_paper_x (k := 13) F26 (C_least_bounds_x.mono (by decide)) (C_measure_x.mono (by decide)) (C_shortest_2.mono (by decide)) (C_size_of_b.mono (by decide)), m26, k26, b26⟩
  have C_how_many_sums : Cal l.prog w K mg base "how_many_sums" 1 ["bounds"] sp_how_many_sums := ⟨_, _, ok_how_many_sums (k := 0) F27 , m27, k27, b27⟩
  have C_added : Cal l.prog w K mg base "added" 1 ["one", "row", "times"] sp_added := ⟨_, _, ok_added (k := 0) F28 B_len B_range B_tuple, m28, k28, b28⟩
  have C_sums_within : Cal l.prog w K mg base "sums_within" 2 ["rows", "bounds"] sp_sums_within := ⟨_, _, ok_sums_within (k := 1) F29 B_enumerate B_len B_list B_range (C_added.mono (by decide)), m29, k29, b29⟩
  have C_least_shown_2_x : CalX l.prog w K mg base "least_shown" 12 ["rows", "size", "bounds"] (sp_least_shown_2_x (cOf mg)) := ⟨_, _, ok_least_shown_2_x (k := 11) F30 B_len B_range GL_MOST_SUMS (C_how_many_sums.mono (by decide)) (C_least_bounds_x.mono (by decide)) (C_size_of_b.mono (by decide)) (C_sums_within.mono (by decide)), m30, k30, b30⟩
  have C_law_refused_2 : Cal l.prog w K mg base "_law_refused" 15 ["_law_rows_here", "_law_size_here", "_law_bounds_here"] sp_law_refused_2 := ⟨_, _, ok_law_refused_2 (k := 14) F31 B_isinstance B_range (C_least_paper_x.mono (by decide)) (C_least_shown_2_x.mono (by decide)) ER, m31, k31, b31⟩
  have C_law_number_2 : Cal l.prog w K mg base "_law_number" 2 ["_law_script", "_law_at", "_law_most"] sp_law_number_2 := ⟨_, _, ok_law_number_2 (k := 1) F32 B_int B_range B_str (C_law_draw_1.mono (by decide)), m32, k32, b32⟩
  have C_law_without : Cal l.prog w K mg base "_law_without" 1 ["_law_rows_here", "_law_skip_row", "_law_skip_place"] sp_law_without := ⟨_, _, ok_law_without (k := 0) F33 B_len B_range, m33, k33, b33⟩
  have C_law_spanned : Cal l.prog w K mg base "_law_spanned" 10 ["_law_rows_here"] (sp_law_spanned 8) := ⟨_, _, okn_law_spanned (k := 1) F34 m34 k34 b34 B_len B_range (C_law_without.mono (by decide)) (fun _ _ _ h => z0_law_spanned h) 8, m34, k34, b34⟩
  have C_law_rows_3 : Cal l.prog w K mg base "_law_rows" 11 ["_law_script", "_law_at", "_law_most"] sp_law_rows_3 := ⟨_, _, ok_law_rows_3 (k := 10) F35 B_int B_range B_tuple (C_law_draw_1.mono (by decide)) (C_law_number_2.mono (by decide)) (C_law_spanned.mono (by decide)), m35, k35, b35⟩
  exact ok_law_27 (k := 15) F36 B_len B_list B_range B_tuple (C_law_draw_1.mono (by decide)) (C_law_refused_2.mono (by decide)) (C_law_rows_3.mono (by decide))
end K_k27
open PySem PySem.W PyProof.Rows
set_option maxHeartbeats 0 in
theorem PySem.Challenge.cw_underone_k27_papers_of_no_lattice_holds : PySem.Challenge.rw_underone_k27_papers_of_no_lattice.Holds := by
  w_on; o_law; k_head; (case hw => w_witness2)
  k_fill
  refine L2.walk_of (l := PySem.Challenge.rw_underone_k27_papers_of_no_lattice) (n := 63) (k := 16) (x := "_law_script") (CX := fun _ => L2.CX0) (sp := fun w => L3.lift _ L3.spLaw) rfl (by decide) rfl ⟨rfl, by decide, by decide⟩ (fun w h Y => PySem.W.kIn_of Y) ?F (fun _ H a ns hl _ hS => L3.spLaw_of H a ns hl hS) (fun _ _ _ _ _ h => h)
  case F =>
    intro w mg fa h KX G hmg
    refine' K_k27.all_mk KX G hmg ?a0 ?l0 ?c0 ?k0 ?a1 ?l1 ?c1 ?k1 ?a2 ?l2 ?c2 ?k2 ?a3 ?l3 ?c3 ?k3 ?a4 ?l4 ?c4 ?k4 ?a5 ?l5 ?c5 ?k5 ?a6 ?l6 ?c6 ?k6 ?a7 ?l7 ?c7 ?k7 ?a8 ?l8 ?c8 ?k8 ?a9 ?l9 ?c9 ?k9 ?a10 ?l10 ?c10 ?k10 ?a11 ?l11 ?c11 ?k11 ?a12 ?l12 ?c12 ?k12 ?a13 ?l13 ?c13 ?k13 ?a14 ?l14 ?c14 ?k14 ?a15 ?l15 ?c15 ?k15 ?a16 ?l16 ?c16 ?k16 ?a17 ?l17 ?c17 ?k17 ?a18 ?l18 ?c18 ?k18 ?a19 ?l19 ?c19 ?k19 ?a20 ?l20 ?c20 ?k20 ?a21 ?l21 ?c21 ?k21 ?a22 ?l22 ?c22 ?k22 ?a23 ?l23 ?c23 ?k23 ?a24 ?l24 ?c24 ?k24 ?a25 ?l25 ?c25 ?k25 ?a26 ?l26 ?c26 ?k26 ?a27 ?l27 ?c27 ?k27 ?a28 ?l28 ?c28 ?k28 ?a29 ?l29 ?c29 ?k29 ?a30 ?l30 ?c30 ?k30 ?a31 ?l31 ?c31 ?k31 ?a32 ?l32 ?c32 ?k32 ?a33 ?l33 ?c33 ?k33 ?a34 ?l34 ?c34 ?k34 ?a35 ?l35 ?c35 ?k35 ?a36 ?l36 ?c36 ?k36 ?z_abs ?z_enumerate ?z_int ?z_isinstance ?z_len ?z_list ?z_max ?z_min ?z_range ?z_str ?z_sum ?z_tuple ?z_zip ?g_MOST_SUMS ?n_NoAsking ?hd_NoAsking ?t_NoAsking ?b_NoAsking ?n_NoNumber ?hd_NoNumber ?t_NoNumber ?b_NoNumber ?n_NoText ?hd_NoText ?t_NoText ?b_NoText ?n_NoLattice ?hd_NoLattice ?t_NoLattice ?b_NoLattice ?n_NoAsk ?hd_NoAsk ?t_NoAsk ?b_NoAsk ?n_UnderError ?hd_UnderError ?t_UnderError ?b_UnderError ?hn ?ht ?z_ValueError ?x_NoAsking ?k_NoAsking ?hg_NoAsking ?hk_NoAsking ?ha_NoAsking ?hm_NoAsking ?v_NoAsking ?s_NoAsking_NoAsking ?s_NoAsking_NoNumber ?s_NoAsking_NoText ?s_NoAsking_NoLattice ?s_NoAsking_NoAsk ?s_NoAsking_UnderError ?x_NoNumber ?k_NoNumber ?hg_NoNumber ?hk_NoNumber ?ha_NoNumber ?hm_NoNumber ?v_NoNumber ?s_NoNumber_NoAsking ?s_NoNumber_NoNumber ?s_NoNumber_NoText ?s_NoNumber_NoLattice ?s_NoNumber_NoAsk ?s_NoNumber_UnderError ?x_NoText ?k_NoText ?hg_NoText ?hk_NoText ?ha_NoText ?hm_NoText ?v_NoText ?s_NoText_NoAsking ?s_NoText_NoNumber ?s_NoText_NoText ?s_NoText_NoLattice ?s_NoText_NoAsk ?s_NoText_UnderError ?x_NoLattice ?k_NoLattice ?hg_NoLattice ?hk_NoLattice ?ha_NoLattice ?hm_NoLattice ?v_NoLattice ?s_NoLattice_NoAsking ?s_NoLattice_NoNumber ?s_NoLattice_NoText ?s_NoLattice_NoLattice ?s_NoLattice_NoAsk ?s_NoLattice_UnderError ?x_NoAsk ?k_NoAsk ?hg_NoAsk ?hk_NoAsk ?ha_NoAsk ?hm_NoAsk ?v_NoAsk ?s_NoAsk_NoAsking ?s_NoAsk_NoNumber ?s_NoAsk_NoText ?s_NoAsk_NoLattice ?s_NoAsk_NoAsk ?s_NoAsk_UnderError
    (case a0 => k_is); (case l0 => k_is); (case c0 => k_is); (case k0 => k_is); (case a1 => k_is); (case l1 => k_is); (case c1 => k_is); (case k1 => k_is); (case a2 => k_is); (case l2 => k_is); (case c2 => k_is); (case k2 => k_is); (case a3 => k_is); (case l3 => k_is); (case c3 => k_is); (case k3 => k_is); (case a4 => k_is); (case l4 => k_is); (case c4 => k_is); (case k4 => k_is); (case a5 => k_is); (case l5 => k_is); (case c5 => k_is); (case k5 => k_is); (case a6 => k_is); (case l6 => k_is); (case c6 => k_is); (case k6 => k_is); (case a7 => k_is); (case l7 => k_is); (case c7 => k_is); (case k7 => k_is); (case a8 => k_is); (case l8 => k_is); (case c8 => k_is); (case k8 => k_is); (case a9 => k_is); (case l9 => k_is); (case c9 => k_is); (case k9 => k_is); (case a10 => k_is); (case l10 => k_is); (case c10 => k_is); (case k10 => k_is); (case a11 => k_is); (case l11 => k_is); (case c11 => k_is); (case k11 => k_is); (case a12 => k_is); (case l12 => k_is); (case c12 => k_is); (case k12 => k_is); (case a13 => k_is); (case l13 => k_is); (case c13 => k_is); (case k13 => k_is); (case a14 => k_is); (case l14 => k_is); (case c14 => k_is); (case k14 => k_is); (case a15 => k_is); (case l15 => k_is); (case c15 => k_is); (case k15 => k_is); (case a16 => k_is); (case l16 => k_is); (case c16 => k_is); (case k16 => k_is); (case a17 => k_is); (case l17 => k_is); (case c17 => k_is); (case k17 => k_is); (case a18 => k_is); (case l18 => k_is); (case c18 => k_is); (case k18 => k_is); (case a19 => k_is); (case l19 => k_is); (case c19 => k_is); (case k19 => k_is); (case a20 => k_is); (case l20 => k_is); (case c20 => k_is); (case k20 => k_is); (case a21 => k_is); (case l21 => k_is); (case c21 => k_is); (case k21 => k_is); (case a22 => k_is); (case l22 => k_is); (case c22 => k_is); (case k22 => k_is); (case a23 => k_is); (case l23 => k_is); (case c23 => k_is); (case k23 => k_is); (case a24 => k_is); (case l24 => k_is); (case c24 => k_is); (case k24 => k_is); (case a25 => k_is); (case l25 => k_is); (case c25 => k_is); (case k25 => k_is); (case a26 => k_is); (case l26 => k_is); (case c26 => k_is); (case k26 => k_is); (case a27 => k_is); (case l27 => k_is); (case c27 => k_is); (case k27 => k_is); (case a28 => k_is); (case l28 => k_is); (case c28 => k_is); (case k28 => k_is); (case a29 => k_is); (case l29 => k_is); (case c29 => k_is); (case k29 => k_is); (case a30 => k_is); (case l30 => k_is); (case c30 => k_is); (case k30 => k_is); (case a31 => k_is); (case l31 => k_is); (case c31 => k_is); (case k31 => k_is); (case a32 => k_is); (case l32 => k_is); (case c32 => k_is); (case k32 => k_is); (case a33 => k_is); (case l33 => k_is); (case c33 => k_is); (case k33 => k_is); (case a34 => k_is); (case l34 => k_is); (case c34 => k_is); (case k34 => k_is); (case a35 => k_is); (case l35 => k_is); (case c35 => k_is); (case k35 => k_is); (case a36 => k_is); (case l36 => k_is); (case c36 => k_is); (case k36 => k_is); (case z_abs => k_is); (case z_enumerate => k_is); (case z_int => k_is); (case z_isinstance => k_is); (case z_len => k_is); (case z_list => k_is); (case z_max => k_is); (case z_min => k_is); (case z_range => k_is); (case z_str => k_is); (case z_sum => k_is); (case z_tuple => k_is); (case z_zip => k_is); (case g_MOST_SUMS => k_is); (case n_NoAsking => k_is); (case hd_NoAsking => k_is); (case t_NoAsking => k_is); (case b_NoAsking => k_is); (case n_NoNumber => k_is); (case hd_NoNumber => k_is); (case t_NoNumber => k_is); (case b_NoNumber => k_is); (case n_NoText => k_is); (case hd_NoText => k_is); (case t_NoText => k_is); (case b_NoText => k_is); (case n_NoLattice => k_is); (case hd_NoLattice => k_is); (case t_NoLattice => k_is); (case b_NoLattice => k_is); (case n_NoAsk => k_is); (case hd_NoAsk => k_is); (case t_NoAsk => k_is); (case b_NoAsk => k_is); (case n_UnderError => k_is); (case hd_UnderError => k_is); (case t_UnderError => k_is); (case b_UnderError => k_is); (case hn => k_is); (case ht => k_is); (case z_ValueError => k_is); (case x_NoAsking => k_exc); (case k_NoAsking => k_is); (case hg_NoAsking => k_is); (case hk_NoAsking => k_is); (case ha_NoAsking => k_is); (case hm_NoAsking => k_is); (case v_NoAsking => k_is); (case s_NoAsking_NoAsking => k_is); (case s_NoAsking_NoNumber => k_is); (case s_NoAsking_NoText => k_is); (case s_NoAsking_NoLattice => k_is); (case s_NoAsking_NoAsk => k_is); (case s_NoAsking_UnderError => k_is); (case x_NoNumber => k_exc); (case k_NoNumber => k_is); (case hg_NoNumber => k_is); (case hk_NoNumber => k_is); (case ha_NoNumber => k_is); (case hm_NoNumber => k_is); (case v_NoNumber => k_is); (case s_NoNumber_NoAsking => k_is); (case s_NoNumber_NoNumber => k_is); (case s_NoNumber_NoText => k_is); (case s_NoNumber_NoLattice => k_is); (case s_NoNumber_NoAsk => k_is); (case s_NoNumber_UnderError => k_is); (case x_NoText => k_exc); (case k_NoText => k_is); (case hg_NoText => k_is); (case hk_NoText => k_is); (case ha_NoText => k_is); (case hm_NoText => k_is); (case v_NoText => k_is); (case s_NoText_NoAsking => k_is); (case s_NoText_NoNumber => k_is); (case s_NoText_NoText => k_is); (case s_NoText_NoLattice => k_is); (case s_NoText_NoAsk => k_is); (case s_NoText_UnderError => k_is); (case x_NoLattice => k_exc); (case k_NoLattice => k_is); (case hg_NoLattice => k_is); (case hk_NoLattice => k_is); (case ha_NoLattice => k_is); (case hm_NoLattice => k_is); (case v_NoLattice => k_is); (case s_NoLattice_NoAsking => k_is); (case s_NoLattice_NoNumber => k_is); (case s_NoLattice_NoText => k_is); (case s_NoLattice_NoLattice => k_is); (case s_NoLattice_NoAsk => k_is); (case s_NoLattice_UnderError => k_is); (case x_NoAsk => k_exc); (case k_NoAsk => k_is); (case hg_NoAsk => k_is); (case hk_NoAsk => k_is); (case ha_NoAsk => k_is); (case hm_NoAsk => k_is); (case v_NoAsk => k_is); (case s_NoAsk_NoAsking => k_is); (case s_NoAsk_NoNumber => k_is); (case s_NoAsk_NoText => k_is); (case s_NoAsk_NoLattice => k_is); (case s_NoAsk_NoAsk => k_is); (case s_NoAsk_UnderError => k_is)
